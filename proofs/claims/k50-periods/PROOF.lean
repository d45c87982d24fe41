import PyProof.Rows.All
import Wide.All
import OpenK.AllK
import Wide.FinOn
import HandS.ForMost
import HandS.ForExc
import HandS.ExcInit
import HandS.IsInst
import HandS.Gcd
import HandS.Wide
import HandS.WideBits
import HandS.TupAny
import HandS.TupMul
import HandS.Zip
import HandS.Deep
import HandS.Conv
import HandS.SortInts
import HandS.Small
import HandS.EndBits
import KE.DataEq
import KE.GoesEnum
import HandS.More
import HandS.Style
import HandS.Defaults
import HandS.HeadHook4
import HandS.Head3
import HandS.HeadEnd
import PySem.Challenge.RW_wholesigns_k50_whole_periods_and_remaind
set_option Elab.async false
set_option linter.all false
set_option maxRecDepth 100000
set_option maxHeartbeats 8000000
set_option exponentiation.threshold 200
namespace Pv
open PySem
abbrev D := PyData
inductive IV where
  | d (x : D)
  | ref (n : Nat)
  | exc (c : Nat) (x : D)
inductive Cell where
  | lst (xs : List D)
  | dct (kvs : List (Str × D))
  | mix (vs : List IV)
  | dead
abbrev W := List Cell
abbrev Sl := List (Option IV)
inductive R (α : Type) where
  | ok (a : α) (w : W)
  | exc (c : Nat) (x : D) (w : W)
  | no
def R.bind {α β : Type} (r : R α) (f : α → W → R β) : R β :=
  match r with
  | .ok a w => f a w
  | .exc c x w => .exc c x w
  | .no => .no
def ofO {α : Type} (o : Option α) (w : W) : R α := match o with
  | some a => .ok a w
  | none => .no
inductive Tg where
  | nm (i : Nat)
  | nil
  | cons (a r : Tg)
  | tup (ts : Tg)
inductive B where
  | len | int | abs | max | min | sum | all | any | tuple | list | gcd | lcm | isqrt | sorted | str | bool
  deriving DecidableEq
inductive M where
  | append | insert | pop | popAt | extend
  deriving DecidableEq
inductive T where
  | int | bool | str | tuple | list | dict
  deriving DecidableEq
inductive Ex where
  | var (i : Nat)
  | frz (i : Nat)
  | cst (x : D)
  | glob (j : Nat)
  | nil
  | cons (a r : Ex)
  | tup (es : Ex)
  | lst (es : Ex)
  | new (a : Ex)
  | lstm (es : Ex)
  | subm (a i : Ex)
  | fz (a : Ex)
  | dct
  | bin (o : Operator) (a b : Ex)
  | neg (a : Ex)
  | not (a : Ex)
  | and (a b : Ex)
  | or (a b : Ex)
  | ite (c a b : Ex)
  | cmp (o : CmpOp) (a b : Ex)
  | chain (o o' : CmpOp) (a b c : Ex)
  | call (f : Nat) (es : Ex)
  | callk (f : Nat) (es : Ex) (ks : Ex) (perm : List Nat)
  | callb (f : Nat) (es : Ex)
  | blt (f : B) (es : Ex)
  | isi (a : Ex) (ts : List T)
  | sub (a i : Ex)
  | sl (a lo hi : Ex)
  | slk (a lo hi st : Ex)
  | mth (m : M) (a : Ex) (es : Ex)
  | seq (a : Ex)
  | rng (es : Ex)
  | enm (a : Ex)
  | zp (a b : Ex)
  | comp (own : List Nat) (e : Ex) (t : Tg) (it c : Ex)
inductive St where
  | nil
  | cons (s r : St)
  | stuck
  | pass
  | brk
  | cnt
  | expr (e : Ex)
  | ret (e : Ex)
  | retN
  | asg (t : Tg) (e : Ex)
  | par (is : List Nat) (es : Ex)
  | stix (o ix e : Ex)
  | stixm (o ix e : Ex)
  | auix (op : Operator) (o ix e : Ex)
  | ifs (c : Ex) (a b : St)
  | for_ (t : Tg) (it : Ex) (b : St)
  | whl (c : Ex) (b : St)
  | rais (c : Nat) (e : Ex)
  | try_ (b : St) (c ei ci : Nat)
def okL (n : Nat) : Bool := decide (n ≤ 16777216)
def okI (i : Int) : Bool := decide (i.natAbs.log2 < 60000000)
def okDiv (i j : Int) : Bool := (j != 0) && (decide (j.natAbs.log2 < 9000) || decide (i.natAbs.log2 ≤ j.natAbs.log2 + 4000))
def okD (x : D) : Bool := x.plain && decide (x.depth ≤ 60)
def binD : Operator → D → D → Option D
  | .Add, .int i, .int j => some (.int (i + j))
  | .Add, .str x, .str y => if okL (x.length + y.length) then some (.str (x ++ y)) else none
  | .Add, .tuple xs, .tuple ys => if okL (xs.length + ys.length) then some (.tuple (xs ++ ys)) else none
  | .Add, .list xs, .list ys => if okL (xs.length + ys.length) then some (.list (xs ++ ys)) else none
  | .Sub, .int i, .int j => some (.int (i - j))
  | .Mult, .int i, .int j => if okI i && okI j then some (.int (i * j)) else none
  | .Mult, .tuple xs, .int k => if decide (xs.length ≤ 1000) && decide (k ≤ 1000) && decide (-1000 ≤ k) then some (.tuple (List.replicate k.toNat xs).flatten) else none
  | .Mult, .list xs, .int k => if decide (xs.length ≤ 1000) && decide (k ≤ 1000) && decide (-1000 ≤ k) then some (.list (List.replicate k.toNat xs).flatten) else none
  | .FloorDiv, .int i, .int j => if okDiv i j then some (.int (i.fdiv j)) else none
  | .Mod, .int i, .int j => if j != 0 then some (.int (i.fmod j)) else none
  | .Pow, .int i, .int j => if decide (0 ≤ j) && decide (j ≤ 1000000) && decide (i.natAbs < 2 ^ 64) then some (.int (i ^ j.toNat)) else none
  | _, _, _ => none
def isIn (x : D) (ys : List D) : Bool := ys.any fun y => PyData.eqv y x
def isNone : D → Bool
  | .none => true
  | _ => false
def cmpD : CmpOp → D → D → Option Bool
  | .Eq, x, y => if okD x && okD y then some (PyData.eqv x y) else none
  | .NotEq, x, y => if okD x && okD y then some (!PyData.eqv x y) else none
  | .Lt, .int i, .int j => some (decide (i < j))
  | .LtE, .int i, .int j => some (decide (i ≤ j))
  | .Gt, .int i, .int j => some (decide (j < i))
  | .GtE, .int i, .int j => some (decide (j ≤ i))
  | .Is, x, .none => some (isNone x)
  | .IsNot, x, .none => some (!isNone x)
  | .In, x, .list ys => if okD x && okD (.list ys) then some (isIn x ys) else none
  | .In, x, .tuple ys => if okD x && okD (.tuple ys) then some (isIn x ys) else none
  | .NotIn, x, .list ys => if okD x && okD (.list ys) then some (!isIn x ys) else none
  | .NotIn, x, .tuple ys => if okD x && okD (.tuple ys) then some (!isIn x ys) else none
  | _, _, _ => none
def rdC : Option Cell → Option D
  | some (.lst xs) => some (.list xs)
  | _ => none
def rd (w : W) : IV → Option D
  | .d x => some x
  | .ref n => rdC w[n]?
  | .exc _ _ => none
def ixN (n : Nat) (i : Int) : Option Nat := if 0 ≤ i then (if i < n then some i.toNat else none) else if -(n : Int) ≤ i then some (i + n).toNat else none
def subD : D → D → Option D
  | .list xs, .int i => (ixN xs.length i).bind fun j => xs[j]?
  | .tuple xs, .int i => (ixN xs.length i).bind fun j => xs[j]?
  | _, _ => none
def partD : Option D → Option (Option Int)
  | none => some none
  | some (.int i) => some (some i)
  | some _ => none
def clip (n d : Nat) : Option Int → Nat
  | none => d
  | some i => if i < 0 then (if i + n < 0 then 0 else (i + n).toNat) else (if (n : Int) < i then n else i.toNat)
def cut (xs : List D) (lo hi : Option Int) : List D := (xs.drop (clip xs.length 0 lo)).take (clip xs.length xs.length hi - clip xs.length 0 lo)
def slD : D → Option Int → Option Int → Option D
  | .list xs, lo, hi => some (.list (cut xs lo hi))
  | .tuple xs, lo, hi => some (.tuple (cut xs lo hi))
  | _, _, _ => none
def cutK {α : Type} (xs : List α) (lo hi : Option Int) (k : Int) : List α :=
  (List.range (Builtin.Slice.slicePlaces (Builtin.Slice.sliceAdjust lo hi k (xs.length : Int)).1 (Builtin.Slice.sliceAdjust lo hi k (xs.length : Int)).2 k)).filterMap fun (j : Nat) => xs[((Builtin.Slice.sliceAdjust lo hi k (xs.length : Int)).1 + (j : Int) * k).toNat]?
def slkD : D → Option Int → Option Int → Option Int → Option D
  | .list xs, lo, hi, some k => if k != 0 then some (.list (cutK xs lo hi k)) else none
  | .tuple xs, lo, hi, some k => if k != 0 && k != 1 then some (.tuple (cutK xs lo hi k)) else none
  | _, _, _, _ => none
def itemsD : D → Option (List D)
  | .list xs => some xs
  | .tuple xs => some xs
  | _ => none
def ints? : List D → Option (List Int)
  | [] => some []
  | .int i :: r => (ints? r).map (i :: ·)
  | _ :: _ => none
def bools? : List D → Option (List Bool)
  | [] => some []
  | .bool b :: r => (bools? r).map (b :: ·)
  | _ :: _ => none
def maxL : List Int → Option Int
  | [] => none
  | [i] => some i
  | i :: r => (maxL r).map fun m => if m < i then i else m
def minL : List Int → Option Int
  | [] => none
  | [i] => some i
  | i :: r => (minL r).map fun m => if i < m then i else m
def tyB : D → T → Bool
  | .bool _, .bool => true
  | .bool _, .int => true
  | .int _, .int => true
  | .str _, .str => true
  | .tuple _, .tuple => true
  | .list _, .list => true
  | .dict _, .dict => true
  | _, _ => false
def bltD : B → List D → Option D
  | .len, [.list xs] => some (.int xs.length)
  | .len, [.tuple xs] => some (.int xs.length)
  | .len, [.str x] => if okL x.length then some (.int x.length) else none
  | .int, [.int i] => some (.int i)
  | .int, [.bool b] => some (.int (if b then 1 else 0))
  | .abs, [.int i] => some (.int (if i < 0 then -i else i))
  | .max, [.int i, .int j] => some (.int (if j > i then j else i))
  | .min, [.int i, .int j] => some (.int (if j < i then j else i))
  | .max, [.list xs] => ((ints? xs).bind maxL).map .int
  | .min, [.list xs] => ((ints? xs).bind minL).map .int
  | .sum, [.list xs] => (ints? xs).map fun ns => .int ns.sum
  | .all, [.list xs] => (bools? xs).map fun bs => .bool (bs.all id)
  | .any, [.list xs] => (bools? xs).map fun bs => .bool (bs.any id)
  | .tuple, [.list xs] => some (.tuple xs)
  | .tuple, [.tuple xs] => some (.tuple xs)
  | .list, [.list xs] => some (.list xs)
  | .list, [.tuple xs] => some (.list xs)
  | .gcd, [.int i, .int j] => some (.int ((Nat.gcd i.natAbs j.natAbs : Nat) : Int))
  | .lcm, [.int i, .int j] => if decide (i.natAbs.log2 < 9000) && decide (j.natAbs.log2 < 9000) then some (.int ((Nat.lcm i.natAbs j.natAbs : Nat) : Int)) else none
  | .isqrt, [.int i] => if decide (0 ≤ i) && decide (i.natAbs.log2 < 9000) then some (.int ((Float64.isqrt i.toNat : Nat) : Int)) else none
  | .str, [.int i] => if decide (i.natAbs.log2 < 1920) then some (.str (toString i)) else none
  | _, _ => none
def rdAll (w : W) : List IV → Option (List D)
  | [] => some []
  | v :: r => (rd w v).bind fun x => (rdAll w r).map (x :: ·)
def rngD : List D → Option (List D)
  | [.int j] => if decide (-4611686018427387904 ≤ j) && decide (j ≤ 16777216) then some ((List.range j.toNat).map fun k => .int (k : Nat)) else none
  | [.int i, .int j] => if decide (-4611686018427387904 ≤ i) && decide (i < 4611686018427387904) && decide (-4611686018427387904 ≤ j) && decide (j < 4611686018427387904) && decide (j - i ≤ 16777216) then some ((List.range (j - i).toNat).map fun (k : Nat) => .int (i + k)) else none
  | _ => none
def enumD (k : Nat) : List D → List D
  | [] => []
  | x :: r => .tuple [.int k, x] :: enumD (k + 1) r
def zipD : List D → List D → List D
  | x :: r, y :: q => .tuple [x, y] :: zipD r q
  | _, _ => []
mutual
def asgT : Tg → D → Sl → Option Sl
  | .nm i, x, σ => some (σ.set i (some (.d x)))
  | .tup ts, .tuple xs, σ => asgTs ts xs σ
  | _, _, _ => none
def asgTs : Tg → List D → Sl → Option Sl
  | .nil, [], σ => some σ
  | .cons a r, x :: xs, σ => (asgT a x σ).bind fun σ1 => asgTs r xs σ1
  | _, _, _ => none
end
def wip (σ : Sl) : List Nat → Sl
  | [] => σ
  | v :: vs => (wip σ vs).set v none
def slot (σ : Sl) (i : Nat) : Option IV := (σ[i]?).bind id
def frzW (w : W) : IV → R IV
  | .d x => .ok (.d x) w
  | .ref n => match w[n]? with
    | some (.lst xs) => .ok (.d (.list xs)) (w.set n .dead)
    | _ => .no
  | .exc _ _ => .no
def newW (w : W) : IV → R IV
  | .d (.list xs) => .ok (.ref w.length) (w ++ [.lst xs])
  | _ => .no
def toB : IV → Option Bool
  | .d (.bool b) => some b
  | _ => none
def tst {α : Type} (r : R IV) (f : Bool → W → R α) : R α := r.bind fun v w => match toB v with
  | some b => f b w
  | none => .no
def dat {α : Type} (r : R IV) (f : D → W → R α) : R α := r.bind fun v w => match rd w v with
  | some x => f x w
  | none => .no
def pur {α : Type} (r : R IV) (f : D → W → R α) : R α := r.bind fun v w => match v with
  | .d x => f x w
  | _ => .no
def purs : List IV → Option (List D)
  | [] => some []
  | .d x :: r => (purs r).map (x :: ·)
  | _ :: _ => none
def stL (xs : List D) (i : D) (v : D) : Option (List D) := match i with
  | .int k => (ixN xs.length k).map fun j => xs.set j v
  | _ => none
def mthW : M → IV → List D → W → R IV
  | .append, .ref n, [x], w => match w[n]? with
    | some (.lst xs) => if decide (xs.length < 16777216) then .ok (.d .none) (w.set n (.lst (xs ++ [x]))) else .no
    | _ => .no
  | .insert, .ref n, [.int i, x], w => match w[n]? with
    | some (.lst xs) => if decide (xs.length < 16777216) && decide (0 ≤ i) && decide (i < 9223372036854775808) then .ok (.d .none) (w.set n (.lst (xs.take i.toNat ++ [x] ++ xs.drop i.toNat))) else .no
    | _ => .no
  | .popAt, .ref n, [.int i], w => match w[n]? with
    | some (.lst xs) => (match ixN xs.length i with
      | some j => (match xs[j]? with
        | some x => if decide (-9223372036854775808 ≤ i) && decide (i < 9223372036854775808) then .ok (.d x) (w.set n (.lst (xs.eraseIdx j))) else .no
        | none => .no)
      | none => .no)
    | _ => .no
  | .extend, .ref n, [.list ys], w => match w[n]? with
    | some (.lst xs) => if okL (xs.length + ys.length) then .ok (.d .none) (w.set n (.lst (xs ++ ys))) else .no
    | _ => .no
  | _, _, _, _ => .no
def elOk (n : Nat) : IV → Bool
  | .d _ => true
  | .ref j => decide (j < n)
  | .exc _ _ => false
def subM (w : W) : IV → IV → Option IV
  | .ref n, .d (.int k) => match w[n]? with
    | some (.mix vs) => (ixN vs.length k).bind fun j => vs[j]?
    | _ => none
  | _, _ => none
def compL (f : D → W → R (Option D)) : List D → W → R (List D)
  | [], w => .ok [] w
  | x :: xs, w => match f x w with
    | .ok o w1 => (compL f xs w1).bind fun ys w2 => .ok (o.toList ++ ys) w2
    | _ => .no
def compC (f : D → W → R (Option D)) (n : Nat) : Nat → Nat → W → R (List D)
  | 0, _, _ => .no
  | q + 1, k, w => match w[n]? with
    | some (.lst xs) => (match xs[k]? with
      | none => .ok [] w
      | some x => (match f x w with
        | .ok o w1 => (compC f n q (k + 1) w1).bind fun ys w2 => .ok (o.toList ++ ys) w2
        | _ => .no))
    | _ => .no
inductive It where
  | dat (xs : List D)
  | cel (n : Nat)
structure En where
  Φ : Nat → List IV → W → R IV
  q : Nat
  G : Nat → Option D
def toIt (w : W) (v : IV) : Option It := match v with
  | .d x => (itemsD x).map It.dat
  | .ref n => (match w[n]? with
    | some (.lst _) => some (.cel n)
    | _ => none)
  | .exc _ _ => none
def cmpV (o : CmpOp) (w : W) (u v : IV) : Option Bool := match rd w u, rd w v with
  | some x, some y => cmpD o x y
  | none, some .none => (match u, o with
    | .exc _ _, .Is => some false
    | .exc _ _, .IsNot => some true
    | _, _ => none)
  | _, _ => none
def pick (vs : List IV) : List Nat → Option (List IV)
  | [] => some []
  | j :: r => (vs[j]?).bind fun v => (pick vs r).map (v :: ·)
def isiV (w : W) (ts : List T) (v : IV) : Option Bool := (rd w v).map fun x => ts.any (tyB x)
def isLst : Option D → Bool
  | some (.list _) => true
  | _ => false
def isNil : Ex → Bool
  | .nil => true
  | _ => false
def rd1 (w : W) : IV → Option D
  | .d x => some x
  | .ref j => (match w[j]? with
    | some (.lst ds) => some (.list ds)
    | _ => none)
  | .exc _ _ => none
def rd1s (w : W) : List IV → Option (List D)
  | [] => some []
  | v :: r => (rd1 w v).bind fun x => (rd1s w r).map (x :: ·)
def rd2 (w : W) : IV → Option D
  | .d x => some x
  | .ref n => (match w[n]? with
    | some (.lst ds) => some (.list ds)
    | some (.mix vs) => (rd1s w vs).map .list
    | _ => none)
  | .exc _ _ => none
def rd2s (w : W) : List IV → Option (List D)
  | [] => some []
  | v :: r => (rd2 w v).bind fun x => (rd2s w r).map (x :: ·)
def scal : D → Bool
  | .none => true
  | .bool _ => true
  | .int _ => true
  | .str _ => true
  | _ => false
def borW (Φ : Nat → List IV → W → R IV) (i : Nat) (vs : List IV) (w : W) : R IV := match rd2s w vs with
  | some ds => (match Φ i (ds.map .d) [] with
    | .ok (.d r) _ => if scal r then .ok (.d r) w else .no
    | _ => .no)
  | none => .no
mutual
def ev (E : En) : Ex → Sl → W → R IV
  | .var i, σ, w => ofO (slot σ i) w
  | .frz i, σ, w => (ofO (slot σ i) w).bind fun v w => frzW w v
  | .cst x, _, w => .ok (.d x) w
  | .dct, _, w => .ok (.d (.dict [])) w
  | .glob j, _, w => ofO ((E.G j).map IV.d) w
  | .tup es, σ, w => (evA E es σ w).bind fun vs w1 => match purs vs with
    | some xs => if okL xs.length then .ok (.d (.tuple xs)) w1 else .no
    | none => .no
  | .lst es, σ, w => (evA E es σ w).bind fun vs w1 => match purs vs with
    | some xs => if okL xs.length then .ok (.d (.list xs)) w1 else .no
    | none => .no
  | .new a, σ, w => (ev E a σ w).bind fun v w1 => newW w1 v
  | .lstm es, σ, w => (evA E es σ w).bind fun vs w1 => if okL vs.length && vs.all (elOk w1.length) then .ok (.ref w1.length) (w1 ++ [.mix vs]) else .no
  | .subm a i, σ, w => (ev E a σ w).bind fun u w1 => (ev E i σ w1).bind fun v w2 => ofO (subM w2 u v) w2
  | .fz a, σ, w => (ev E a σ w).bind fun v w1 => frzW w1 v
  | .bin o a b, σ, w => (ev E a σ w).bind fun u w1 => (ev E b σ w1).bind fun v w2 => match rd w2 u, rd w2 v with
    | some x, some y => ofO ((binD o x y).map IV.d) w2
    | _, _ => .no
  | .neg a, σ, w => (ev E a σ w).bind fun v w1 => match v with
    | .d (.int i) => .ok (.d (.int (-i))) w1
    | _ => .no
  | .not a, σ, w => tst (ev E a σ w) fun b w1 => .ok (.d (.bool (!b))) w1
  | .and a b, σ, w => tst (ev E a σ w) fun c w1 => if c then ev E b σ w1 else .ok (.d (.bool false)) w1
  | .or a b, σ, w => tst (ev E a σ w) fun c w1 => if c then .ok (.d (.bool true)) w1 else ev E b σ w1
  | .ite c a b, σ, w => tst (ev E c σ w) fun k w1 => if k then ev E a σ w1 else ev E b σ w1
  | .cmp o a b, σ, w => (ev E a σ w).bind fun u w1 => (ev E b σ w1).bind fun v w2 => ofO ((cmpV o w2 u v).map fun k => .d (.bool k)) w2
  | .chain o o' a b c, σ, w => (ev E a σ w).bind fun u w1 => (ev E b σ w1).bind fun v w2 => (ofO (cmpV o w2 u v) w2).bind fun k w2 =>
      if k then (ev E c σ w2).bind fun z w3 => ofO ((cmpV o' w3 v z).map fun k => .d (.bool k)) w3 else .ok (.d (.bool false)) w2
  | .call f es, σ, w => (evA E es σ w).bind fun vs w1 => E.Φ f vs w1
  | .callb f es, σ, w => (evA E es σ w).bind fun vs w1 => borW E.Φ f vs w1
  | .callk f es ks perm, σ, w => (evA E es σ w).bind fun vs w1 => (evA E ks σ w1).bind fun zs w2 => match pick (vs ++ zs) perm with
    | some us => E.Φ f us w2
    | none => .no
  | .blt f es, σ, w => (evA E es σ w).bind fun vs w1 => match rdAll w1 vs with
    | some xs => ofO ((bltD f xs).map IV.d) w1
    | none => .no
  | .isi a ts, σ, w => (ev E a σ w).bind fun v w1 => ofO ((isiV w1 ts v).map fun k => .d (.bool k)) w1
  | .sub a i, σ, w => (ev E a σ w).bind fun u w1 => (ev E i σ w1).bind fun v w2 => match rd w2 u, rd w2 v with
    | some x, some y => ofO ((subD x y).map IV.d) w2
    | _, _ => .no
  | .sl a lo hi, σ, w => (ev E a σ w).bind fun u w1 => (evP E lo σ w1).bind fun l w2 => (evP E hi σ w2).bind fun h w3 => match rd w3 u with
    | some x => ofO ((slD x l h).map IV.d) w3
    | none => .no
  | .slk a lo hi st, σ, w => (ev E a σ w).bind fun u w1 => (evP E lo σ w1).bind fun l w2 => (evP E hi σ w2).bind fun h w3 => (evP E st σ w3).bind fun k w4 => match rd w4 u with
    | some x => ofO ((slkD x l h k).map IV.d) w4
    | none => .no
  | .mth m a es, σ, w => (ev E a σ w).bind fun u w1 => if isLst (rd w1 u) then (evA E es σ w1).bind fun vs w2 => match purs vs with
    | some xs => mthW m u xs w2
    | none => .no else .no
  | .comp own e t it c, σ, w => (evI E it σ w).bind fun J w1 =>
      (match J with
        | .dat xs => if okL xs.length then compL (fun x w => match asgT t x (wip σ own) with
            | some σ1 => if isNil c then (ev E e σ1 w).bind fun v w1 => (match v with
                | .d y => .ok (some y) w1
                | _ => .no) else tst (ev E c σ1 w) fun b w1 => if b then (ev E e σ1 w1).bind fun v w2 => (match v with
                | .d y => .ok (some y) w2
                | _ => .no) else .ok none w1
            | none => .no) xs w1 else .no
        | .cel n => compC (fun x w => match asgT t x (wip σ own) with
            | some σ1 => if isNil c then (ev E e σ1 w).bind fun v w1 => (match v with
                | .d y => .ok (some y) w1
                | _ => .no) else tst (ev E c σ1 w) fun b w1 => if b then (ev E e σ1 w1).bind fun v w2 => (match v with
                | .d y => .ok (some y) w2
                | _ => .no) else .ok none w1
            | none => .no) n E.q 0 w1).bind fun ys w2 => .ok (.d (.list ys)) w2
  | _, _, _ => .no
def evA (E : En) : Ex → Sl → W → R (List IV)
  | .nil, _, w => .ok [] w
  | .cons a r, σ, w => (ev E a σ w).bind fun v w1 => (evA E r σ w1).bind fun vs w2 => .ok (v :: vs) w2
  | _, _, _ => .no
def evP (E : En) : Ex → Sl → W → R (Option Int)
  | .nil, _, w => .ok none w
  | .cons a _, σ, w => (ev E a σ w).bind fun v w1 => match v with
    | .d (.int i) => .ok (some i) w1
    | _ => .no
  | _, _, _ => .no
def evI (E : En) : Ex → Sl → W → R It
  | .seq a, σ, w => (ev E a σ w).bind fun v w1 => ofO (toIt w1 v) w1
  | .rng es, σ, w => (evA E es σ w).bind fun vs w1 => match purs vs with
    | some xs => ofO ((rngD xs).map It.dat) w1
    | none => .no
  | .enm a, σ, w => (ev E a σ w).bind fun v w1 => match v with
    | .d x => ofO ((itemsD x).map fun xs => It.dat (enumD 0 xs)) w1
    | _ => .no
  | .zp a b, σ, w => (ev E a σ w).bind fun u w1 => (ev E b σ w1).bind fun v w2 => match u, v with
    | .d (.tuple xs), .d (.tuple ys) => .ok (.dat (zipD xs ys)) w2
    | .d (.list xs), .d (.list ys) => .ok (.dat (zipD xs ys)) w2
    | _, _ => .no
  | _, _, _ => .no
end
inductive Fl where
  | next (σ : Sl)
  | ret (v : IV)
  | brk (σ : Sl)
  | cnt (σ : Sl)
  | exc (c : Nat) (x : D) (σ : Sl)
inductive RS where
  | mk (f : Fl) (w : W)
  | no
def onE {α : Type} (r : R α) (σ : Sl) (f : α → W → RS) : RS := match r with
  | .ok a w => f a w
  | .exc c x w => .mk (.exc c x σ) w
  | .no => .no
def setAll : List Nat → List IV → Sl → Option Sl
  | [], [], σ => some σ
  | i :: is, v :: vs, σ => setAll is vs (σ.set i (some v))
  | _, _, _ => none
def ofS (o : Option Sl) (w : W) : RS := match o with
  | some σ => .mk (.next σ) w
  | none => .no
def forL (f : D → Sl → W → RS) : List D → Sl → W → RS
  | [], σ, w => .mk (.next σ) w
  | x :: xs, σ, w => match f x σ w with
    | .mk (.next σ1) w1 => forL f xs σ1 w1
    | .mk (.cnt σ1) w1 => forL f xs σ1 w1
    | .mk (.brk σ1) w1 => .mk (.next σ1) w1
    | o => o
def forC (f : D → Sl → W → RS) (n : Nat) : Nat → Nat → Sl → W → RS
  | 0, _, _, _ => .no
  | q + 1, k, σ, w => match w[n]? with
    | some (.lst xs) => (match xs[k]? with
      | none => .mk (.next σ) w
      | some x => (match f x σ w with
        | .mk (.next σ1) w1 => forC f n q (k + 1) σ1 w1
        | .mk (.cnt σ1) w1 => forC f n q (k + 1) σ1 w1
        | .mk (.brk σ1) w1 => .mk (.next σ1) w1
        | o => o))
    | _ => .no
def whlL (c : Sl → W → R IV) (f : Sl → W → RS) : Nat → Sl → W → RS
  | 0, _, _ => .no
  | q + 1, σ, w => onE (tst (c σ w) fun b w => .ok b w) σ fun b w1 => if b then (match f σ w1 with
      | .mk (.next σ1) w2 => whlL c f q σ1 w2
      | .mk (.cnt σ1) w2 => whlL c f q σ1 w2
      | .mk (.brk σ1) w2 => .mk (.next σ1) w2
      | o => o) else .mk (.next σ) w1
def under (c c' : Nat) : Bool := c == c' || c' == 0
def evS (E : En) : St → Sl → W → RS
  | .nil, σ, w => .mk (.next σ) w
  | .cons s r, σ, w => match evS E s σ w with
    | .mk (.next σ1) w1 => evS E r σ1 w1
    | o => o
  | .stuck, _, _ => .no
  | .pass, σ, w => .mk (.next σ) w
  | .brk, σ, w => .mk (.brk σ) w
  | .cnt, σ, w => .mk (.cnt σ) w
  | .expr e, σ, w => onE (ev E e σ w) σ fun _ w1 => .mk (.next σ) w1
  | .ret e, σ, w => onE (ev E e σ w) σ fun v w1 => .mk (.ret v) w1
  | .retN, _, w => .mk (.ret (.d .none)) w
  | .asg t e, σ, w => onE (ev E e σ w) σ fun v w1 => (match t, v with
    | .nm i, v => .mk (.next (σ.set i (some v))) w1
    | t, .d x => ofS (asgT t x σ) w1
    | _, _ => .no)
  | .par is es, σ, w => onE (evA E es σ w) σ fun vs w1 => ofS (setAll is vs σ) w1
  | .stix o ix e, σ, w => onE (ev E e σ w) σ fun v w1 => onE (ev E o σ w1) σ fun u w2 => onE (ev E ix σ w2) σ fun i w3 => (match u, i, v with
    | .ref n, .d ix, .d x => (match w3[n]? with
      | some (.lst xs) => (match stL xs ix x with
        | some ys => .mk (.next σ) (w3.set n (.lst ys))
        | none => .no)
      | _ => .no)
    | _, _, _ => .no)
  | .stixm o ix e, σ, w => onE (ev E e σ w) σ fun v w1 => onE (ev E o σ w1) σ fun u w2 => onE (ev E ix σ w2) σ fun i w3 => (match u, i with
    | .ref n, .d (.int k) => (match w3[n]? with
      | some (.mix vs) => (match ixN vs.length k with
        | some j => if elOk n v then .mk (.next σ) (w3.set n (.mix (vs.set j v))) else .no
        | none => .no)
      | _ => .no)
    | _, _ => .no)
  | .auix op o ix e, σ, w => onE (ev E o σ w) σ fun u w1 => onE (ev E ix σ w1) σ fun i w2 => (match u, i with
    | .ref n, .d ix => (match (rdC w2[n]?).bind fun x => subD x ix with
      | some old => onE (ev E e σ w2) σ fun v w3 => (match v with
        | .d x => (match op, old, x, w3[n]? with
          | .Add, .int a, .int b, some (.lst xs) => (match stL xs ix (.int (a + b)) with
            | some ys => .mk (.next σ) (w3.set n (.lst ys))
            | none => .no)
          | _, _, _, _ => .no)
        | _ => .no)
      | none => .no)
    | _, _ => .no)
  | .ifs c a b, σ, w => onE (tst (ev E c σ w) fun k w => .ok k w) σ fun k w1 => if k then evS E a σ w1 else evS E b σ w1
  | .for_ t it b, σ, w => onE (evI E it σ w) σ fun J w1 => (match J with
    | .dat xs => if okL xs.length then forL (fun x σ w => match asgT t x σ with
        | some σ1 => evS E b σ1 w
        | none => .no) xs σ w1 else .no
    | .cel n => forC (fun x σ w => match asgT t x σ with
        | some σ1 => evS E b σ1 w
        | none => .no) n E.q 0 σ w1)
  | .whl c b, σ, w => whlL (fun σ w => ev E c σ w) (fun σ w => evS E b σ w) E.q σ w
  | .rais c e, σ, w => onE (ev E e σ w) σ fun v w1 => (match v with
    | .d x => .mk (.exc c x σ) w1
    | _ => .no)
  | .try_ b c ei ci, σ, w => match evS E b σ w with
    | .mk (.exc c' x σ1) w1 => if under c' c then .mk (.next ((σ1.set ci (some (.exc c' x))).set ei none)) w1 else .mk (.exc c' x σ1) w1
    | o => o
structure Fn where
  np : Nat
  ns : Nat
  body : St
def fin (n : Nat) : RS → R IV
  | .mk (.ret v) w1 => match v with
    | .ref k => if k < n then .ok v (w1.take n) else .ok v w1
    | _ => .ok v (w1.take n)
  | .mk (.next _) w1 => .ok (.d .none) (w1.take n)
  | .mk (.exc c x _) w1 => .exc c x (w1.take n)
  | _ => .no
def runF (E : En) (fn : Fn) (as : List IV) (w : W) : R IV :=
  if as.length == fn.np then fin w.length (evS E fn.body (as.map some ++ List.replicate (fn.ns - fn.np) none) w) else .no
def callF (P : List Fn) (q : Nat) (G : Nat → Option D) : Nat → Nat → List IV → W → R IV
  | 0, _, _, _ => .no
  | d + 1, f, as, w => match P[f]? with
    | none => .no
    | some fn => runF ⟨callF P q G d, q, G⟩ fn as w
end Pv
namespace Pv
open PySem PySem.Spec PyProof.Rows L2
structure Tab where
  cls : Nat → Addr
def FzL (_ : PySem.W.Frag) (H : Hp) (a : Addr) (xs : List V) : Prop := ∃ o, H a = some (.frz o (.lst xs))
theorem FzL.sq {K : PySem.W.Frag} {H : Hp} {a : Addr} {xs : List V} (h : FzL K H a xs) : SqL K H a xs := by
  obtain ⟨o, h⟩ := h
  exact .inl (.inr ⟨o, h⟩)
theorem FzL.rd {K : PySem.W.Frag} {H : Hp} {a : Addr} {xs : List V} (h : FzL K H a xs) : Rd H a (.lst xs) := .inr h
mutual
inductive Fz (K : PySem.W.Frag) (H : Hp) : V → D → Prop
  | non : Fz K H .non .none
  | bl (b : Bool) : Fz K H (.bl b) (.bool b)
  | int (i : Int) : Fz K H (.int i) (.int i)
  | str (x : Str) : Fz K H (.str x) (.str x)
  | lst {a : Addr} {xs : List V} {ds : List D} : FzL K H a xs → FzAll K H xs ds → Fz K H (.ref a) (.list ds)
  | tup {a : Addr} {xs : List V} {ds : List D} : SqT K H a xs → FzAll K H xs ds → Fz K H (.ref a) (.tuple ds)
  | dct {a : Addr} : (∃ o, H a = some (.frz o (.dK []))) → Fz K H (.ref a) (.dict [])
inductive FzAll (K : PySem.W.Frag) (H : Hp) : List V → List D → Prop
  | nil : FzAll K H [] []
  | cons {v : V} {vs : List V} {d : D} {ds : List D} : Fz K H v d → FzAll K H vs ds → FzAll K H (v :: vs) (d :: ds)
end
mutual
theorem Fz.dp {K : PySem.W.Frag} {H : Hp} : ∀ {v : V} {d : D}, Fz K H v d → d.plain = true → Dp K H v d
  | _, _, .non, _ => .non
  | _, _, .bl b, _ => .bl b
  | _, _, .int i, _ => .int i
  | _, _, .str x, _ => .str x
  | _, _, .lst h r, p => .lst h.sq (FzAll.dp r (by simpa [PyData.plain] using p))
  | _, _, .tup h r, p => .tup h (FzAll.dp r (by simpa [PyData.plain] using p))
  | _, _, .dct _, p => absurd p (by simp [PyData.plain])
theorem FzAll.dp {K : PySem.W.Frag} {H : Hp} : ∀ {vs : List V} {ds : List D}, FzAll K H vs ds → PyData.plainAll ds = true → DpAll K H vs ds
  | _, _, .nil, _ => .nil
  | _, _, .cons h r, p => by
    rw [PyData.plainAll, Bool.and_eq_true] at p
    exact .cons (Fz.dp h p.1) (FzAll.dp r p.2)
end
structure Grow (H H' : Hp) : Prop where
  tup : ∀ a xs, H a = some (.tup xs) → H' a = some (.tup xs)
  frz : ∀ a o u, H a = some (.frz o u) → H' a = some (.frz o u)
theorem Grow.refl (H : Hp) : Grow H H := ⟨fun _ _ h => h, fun _ _ _ h => h⟩
theorem Grow.trans {H H1 H2 : Hp} (a : Grow H H1) (b : Grow H1 H2) : Grow H H2 := ⟨fun c xs h => b.tup c xs (a.tup c xs h), fun c o u h => b.frz c o u (a.frz c o u h)⟩
theorem Grow.new {H : Hp} {p : Addr} {o : HO} (h : H p = none) : Grow H (upd H p o) :=
  ⟨fun a xs e => by rw [upd_ne (ne_of_none e h)]; exact e, fun a ob u e => by rw [upd_ne (ne_of_none e h)]; exact e⟩
theorem Grow.set {H : Hp} {p : Addr} {o u : HO} (h : H p = some u) (m : Mut (some u)) : Grow H (upd H p o) :=
  ⟨fun a xs e => by rw [upd_ne (ne_of e h fun z => by subst z; exact m)]; exact e, fun a ob x e => by rw [upd_ne (ne_of e h fun z => by subst z; exact m)]; exact e⟩
theorem SqT.grow {K : PySem.W.Frag} {H H' : Hp} (g : Grow H H') {a : Addr} {xs : List V} (h : SqT K H a xs) : SqT K H' a xs := by
  rcases h with (h | ⟨o, h⟩) | h
  · exact .inl (.inl (g.tup a xs h))
  · exact .inl (.inr ⟨o, g.frz a o _ h⟩)
  · exact .inr h
theorem FzL.grow {K : PySem.W.Frag} {H H' : Hp} (g : Grow H H') {a : Addr} {xs : List V} (h : FzL K H a xs) : FzL K H' a xs := by
  obtain ⟨o, h⟩ := h
  exact ⟨o, g.frz a o _ h⟩
mutual
theorem Fz.grow {K : PySem.W.Frag} {H H' : Hp} (g : Grow H H') : ∀ {v : V} {d : D}, Fz K H v d → Fz K H' v d
  | _, _, .non => .non
  | _, _, .bl b => .bl b
  | _, _, .int i => .int i
  | _, _, .str x => .str x
  | _, _, .lst h r => .lst (h.grow g) (FzAll.grow g r)
  | _, _, .tup h r => .tup (SqT.grow g h) (FzAll.grow g r)
  | _, _, .dct ⟨o, h⟩ => .dct ⟨o, g.frz _ _ _ h⟩
theorem FzAll.grow {K : PySem.W.Frag} {H H' : Hp} (g : Grow H H') : ∀ {vs : List V} {ds : List D}, FzAll K H vs ds → FzAll K H' vs ds
  | _, _, .nil => .nil
  | _, _, .cons h r => .cons (Fz.grow g h) (FzAll.grow g r)
end
theorem FzAll.length {K : PySem.W.Frag} {H : Hp} : ∀ {vs : List V} {ds : List D}, FzAll K H vs ds → vs.length = ds.length
  | _, _, .nil => rfl
  | _, _, .cons _ r => by rw [List.length_cons, List.length_cons, FzAll.length r]
theorem FzAll.get {K : PySem.W.Frag} {H : Hp} : ∀ {vs : List V} {ds : List D} {i : Nat} {d : D}, FzAll K H vs ds → ds[i]? = some d → ∃ v, vs[i]? = some v ∧ Fz K H v d
  | _, _, _, _, .nil, e => by simp at e
  | _, _, 0, _, .cons h _, e => by simp at e; subst e; exact ⟨_, rfl, h⟩
  | _, _, i + 1, d, .cons _ r, e => by
    obtain ⟨v, h1, h2⟩ := FzAll.get (i := i) (d := d) r (by simpa using e)
    exact ⟨v, by simpa using h1, h2⟩
theorem FzAll.append {K : PySem.W.Frag} {H : Hp} : ∀ {vs us : List V} {ds es : List D}, FzAll K H vs ds → FzAll K H us es → FzAll K H (vs ++ us) (ds ++ es)
  | _, _, _, _, .nil, s => s
  | _, _, _, _, .cons h r, s => .cons h (FzAll.append r s)
theorem FzAll.set {K : PySem.W.Frag} {H : Hp} {v : V} {d : D} (h : Fz K H v d) : ∀ {vs : List V} {ds : List D} (i : Nat), FzAll K H vs ds → FzAll K H (vs.set i v) (ds.set i d)
  | _, _, _, .nil => .nil
  | _, _, 0, .cons _ r => .cons h r
  | _, _, i + 1, .cons q r => .cons q (FzAll.set h i r)
theorem FzAll.take {K : PySem.W.Frag} {H : Hp} : ∀ {vs : List V} {ds : List D} (n : Nat), FzAll K H vs ds → FzAll K H (vs.take n) (ds.take n)
  | _, _, 0, _ => .nil
  | _, _, _ + 1, .nil => .nil
  | _, _, n + 1, .cons h r => .cons h (FzAll.take n r)
theorem FzAll.drop {K : PySem.W.Frag} {H : Hp} : ∀ {vs : List V} {ds : List D} (n : Nat), FzAll K H vs ds → FzAll K H (vs.drop n) (ds.drop n)
  | _, _, 0, r => r
  | _, _, _ + 1, .nil => .nil
  | _, _, n + 1, .cons _ r => FzAll.drop n r
theorem FzAll.rep {K : PySem.W.Frag} {H : Hp} {vs : List V} {ds : List D} (r : FzAll K H vs ds) : ∀ n : Nat, FzAll K H (List.replicate n vs).flatten (List.replicate n ds).flatten
  | 0 => .nil
  | n + 1 => by
    rw [List.replicate_succ, List.replicate_succ, List.flatten_cons, List.flatten_cons]
    exact r.append (FzAll.rep r n)
def RelE (K : PySem.W.Frag) (ms : List Addr) (n : Nat) (H : Hp) : IV → V → Prop
  | .d x, v => Fz K H v x
  | .ref j, v => j < n ∧ ∃ b, ms[j]? = some b ∧ v = .ref b
  | .exc _ _, _ => False
def CellOk (K : PySem.W.Frag) (ms : List Addr) (n : Nat) (H : Hp) (a : Addr) : Cell → Prop
  | .lst ds => ∃ xs, H a = some (.lst xs) ∧ FzAll K H xs ds
  | .dct kvs => ∃ ps : List (Key × V), H a = some (.dK ps) ∧ Paired (fun (p : Key × V) (q : Str × D) => p.1 = Sum.inr q.1 ∧ Fz K H p.2 q.2) ps kvs
  | .mix vs => ∃ xs, H a = some (.lst xs) ∧ Paired (RelE K ms n H) vs xs
  | .dead => ∃ u, H a = some u
theorem CellOk.tracked {K : PySem.W.Frag} {ms : List Addr} {n : Nat} {H : Hp} {a : Addr} {c : Cell} (h : CellOk K ms n H a c) : ∃ u, H a = some u := by
  cases c with
  | lst ds => obtain ⟨xs, e, _⟩ := h; exact ⟨_, e⟩
  | dct kvs => obtain ⟨ps, e, _⟩ := h; exact ⟨_, e⟩
  | mix vs => obtain ⟨xs, e, _⟩ := h; exact ⟨_, e⟩
  | dead => exact h
theorem RelE.move {K : PySem.W.Frag} {ms ms' : List Addr} {n : Nat} {H H' : Hp} (g : Grow H H') (p : ∀ (j : Nat) (b : Addr), j < n → ms[j]? = some b → ms'[j]? = some b) : ∀ {v : IV} {u : V}, RelE K ms n H v u → RelE K ms' n H' v u
  | .d _, _, h => Fz.grow g h
  | .ref _, _, ⟨h, b, e, q⟩ => ⟨h, b, p _ b h e, q⟩
  | .exc _ _, _, h => h
theorem CellOk.move {K : PySem.W.Frag} {ms ms' : List Addr} {n : Nat} {H H' : Hp} {a : Addr} {c : Cell} (g : Grow H H') (e : ∀ u, H a = some u → H' a = some u) (p : ∀ (j : Nat) (b : Addr), j < n → ms[j]? = some b → ms'[j]? = some b) (h : CellOk K ms n H a c) : CellOk K ms' n H' a c := by
  cases c with
  | lst ds => obtain ⟨xs, q, r⟩ := h; exact ⟨xs, e _ q, r.grow g⟩
  | dct kvs =>
    obtain ⟨ps, q, r⟩ := h
    exact ⟨ps, e _ q, Paired.mapP r fun p z h => ⟨h.1, h.2.grow g⟩⟩
  | mix vs =>
    obtain ⟨xs, q, r⟩ := h
    exact ⟨xs, e _ q, Paired.mapP r fun _ _ h => h.move g p⟩
  | dead => obtain ⟨u, q⟩ := h; exact ⟨u, e _ q⟩
structure RelW (K : PySem.W.Frag) (ms : List Addr) (H : Hp) (w : W) : Prop where
  len : ms.length = w.length
  nd : ms.Nodup
  at_ : ∀ (n : Nat) (c : Cell) (a : Addr), w[n]? = some c → ms[n]? = some a → CellOk K ms n H a c
section
variable {K : PySem.W.Frag} {ms ms' : List Addr} {H H' : Hp} {w w' : W}
theorem RelW.get (r : RelW K ms H w) {n : Nat} {c : Cell} (e : w[n]? = some c) : ∃ a, ms[n]? = some a ∧ CellOk K ms n H a c := by
  have hn : n < ms.length := by rw [r.len]; exact (List.getElem?_eq_some_iff.mp e).1
  exact ⟨ms[n], List.getElem?_eq_getElem hn, r.at_ n c _ e (List.getElem?_eq_getElem hn)⟩
theorem RelW.mem (r : RelW K ms H w) {a : Addr} (h : a ∈ ms) : ∃ u, H a = some u := by
  obtain ⟨n, hn, e⟩ := List.mem_iff_getElem.mp h
  have hw : n < w.length := by rw [← r.len]; exact hn
  exact (r.at_ n w[n] a (List.getElem?_eq_getElem hw) (by rw [List.getElem?_eq_getElem hn, e])).tracked
theorem RelW.move (r : RelW K ms H w) (g : Grow H H') (e : ∀ a ∈ ms, ∀ u, H a = some u → H' a = some u) : RelW K ms H' w :=
  ⟨r.len, r.nd, fun n c a h1 h2 => (r.at_ n c a h1 h2).move g (e a (List.mem_of_getElem? h2)) fun _ _ _ z => z⟩
theorem RelW.new (r : RelW K ms H w) {p : Addr} {o : HO} (h : H p = none) : RelW K ms (upd H p o) w :=
  r.move (Grow.new h) fun a _ u e => by rw [upd_ne (ne_of_none e h)]; exact e
theorem RelW.push (r : RelW K ms H w) {p : Addr} {c : Cell} (h : p ∉ ms) (k : CellOk K ms ms.length H p c) : RelW K (ms ++ [p]) H (w ++ [c]) := by
  have px : ∀ (j : Nat) (b : Addr), ms[j]? = some b → (ms ++ [p])[j]? = some b := fun j b z => by
    rw [List.getElem?_append_left (List.getElem?_eq_some_iff.mp z).1]; exact z
  refine ⟨by simp [r.len], ?_, fun n c' a h1 h2 => ?_⟩
  · rw [List.nodup_append]
    refine ⟨r.nd, by simp, fun a ha b hb => ?_⟩
    have e : b = p := by simpa using hb
    subst e
    exact fun z => h (z ▸ ha)
  · by_cases hn : n < w.length
    · rw [List.getElem?_append_left hn] at h1
      rw [List.getElem?_append_left (by rw [r.len]; exact hn)] at h2
      exact (r.at_ n c' a h1 h2).move (Grow.refl H) (fun _ z => z) fun j b _ z => px j b z
    · have hn' : n = w.length := by
        have := (List.getElem?_eq_some_iff.mp h1).1
        simp at this; omega
      subst hn'
      rw [List.getElem?_append_right (Nat.le_refl _)] at h1
      rw [List.getElem?_append_right (by rw [r.len]; exact Nat.le_refl _)] at h2
      simp [r.len] at h1 h2
      subst h1 h2
      rw [r.len] at k
      exact k.move (Grow.refl H) (fun _ z => z) fun j b _ z => px j b z
theorem RelW.inj (r : RelW K ms H w) {i j : Nat} {a : Addr} (h1 : ms[i]? = some a) (h2 : ms[j]? = some a) : i = j := by
  obtain ⟨p1, e1⟩ := List.getElem?_eq_some_iff.mp h1
  obtain ⟨p2, e2⟩ := List.getElem?_eq_some_iff.mp h2
  exact (List.getElem_inj r.nd).mp (e1.trans e2.symm)
theorem RelW.set (r : RelW K ms H w) {n : Nat} {a : Addr} {o u : HO} {c : Cell} (hn : ms[n]? = some a) (e : H a = some u) (m : Mut (some u)) (k : CellOk K ms n (upd H a o) a c) : RelW K ms (upd H a o) (w.set n c) := by
  refine ⟨by simp [r.len], r.nd, fun j c' b h1 h2 => ?_⟩
  by_cases hj : j = n
  · subst hj
    rw [hn] at h2; cases h2
    have hw : j < w.length := by
      have := (List.getElem?_eq_some_iff.mp h1).1
      simpa using this
    rw [List.getElem?_set_self hw] at h1
    cases h1
    exact k
  · rw [List.getElem?_set_ne (Ne.symm hj)] at h1
    have hb : b ≠ a := fun z => hj (r.inj (z ▸ h2) hn)
    exact (r.at_ j c' b h1 h2).move (Grow.set e m) (fun v q => by rw [upd_ne hb]; exact q) fun _ _ _ z => z
theorem RelW.take (r : RelW K ms H w) (n : Nat) : RelW K (ms.take n) H (w.take n) := by
  refine ⟨by simp [r.len], r.nd.sublist (List.take_sublist _ _), fun j c a h1 h2 => ?_⟩
  rw [List.getElem?_take] at h1 h2
  split at h1
  · rename_i hj
    rw [if_pos hj] at h2
    exact (r.at_ j c a h1 h2).move (Grow.refl H) (fun _ z => z) fun i b hi z => by
      rw [List.getElem?_take, if_pos (Nat.lt_trans hi hj)]; exact z
  · cases h1
end
def RelI (T : Tab) (K : PySem.W.Frag) (ms : List Addr) (H : Hp) : IV → V → Prop
  | .d x, v => Fz K H v x
  | .ref n, v => ∃ a, ms[n]? = some a ∧ v = .ref a
  | .exc _ _, _ => False
structure Ext (H : Hp) (ms : List Addr) (H' : Hp) (ms' : List Addr) : Prop extends Grow H H' where
  keep : ∀ a u, H a = some u → a ∉ ms → H' a = some u
  trk : ∀ a u, H a = some u → ∃ u', H' a = some u'
  px : ∃ t, ms' = ms ++ t ∧ ∀ b ∈ t, H b = none
theorem Ext.refl (H : Hp) (ms : List Addr) : Ext H ms H ms := ⟨Grow.refl H, fun _ _ h _ => h, fun _ u h => ⟨u, h⟩, [], by simp, fun _ h => nomatch h⟩
theorem Ext.none {H : Hp} {ms : List Addr} {H' : Hp} {ms' : List Addr} (x : Ext H ms H' ms') {a : Addr} (h : H' a = Option.none) : H a = Option.none := by
  cases q : H a with
  | none => rfl
  | some u =>
    obtain ⟨u', e⟩ := x.trk a u q
    rw [h] at e; cases e
theorem Ext.trans {H H1 H2 : Hp} {m m1 m2 : List Addr} (a : Ext H m H1 m1) (b : Ext H1 m1 H2 m2) : Ext H m H2 m2 := by
  obtain ⟨t, e1, h1⟩ := a.px
  obtain ⟨t', e2, h2⟩ := b.px
  refine ⟨a.toGrow.trans b.toGrow, fun c u h hn => b.keep c u (a.keep c u h hn) ?_, fun c u h => ?_, t ++ t', by rw [e2, e1, List.append_assoc], fun c hc => ?_⟩
  · rw [e1]
    intro hc
    rcases List.mem_append.mp hc with z | z
    · exact hn z
    · rw [h1 c z] at h; cases h
  · obtain ⟨u1, e⟩ := a.trk c u h
    exact b.trk c u1 e
  · rcases List.mem_append.mp hc with z | z
    · exact h1 c z
    · exact a.none (h2 c z)
theorem Ext.new {H : Hp} {ms : List Addr} {p : Addr} {o : HO} (h : H p = Option.none) : Ext H ms (upd H p o) ms :=
  ⟨Grow.new h, fun a u e _ => by rw [upd_ne (ne_of_none e h)]; exact e, fun a u e => ⟨u, by rw [upd_ne (ne_of_none e h)]; exact e⟩, [], by simp, fun _ h => nomatch h⟩
theorem upd_trk {H : Hp} {p : Addr} {o : HO} (a : Addr) (u : HO) (e : H a = some u) : ∃ u', upd H p o a = some u' := by
  by_cases z : a = p
  · subst z; exact ⟨o, upd_same⟩
  · exact ⟨u, by rw [upd_ne z]; exact e⟩
theorem Ext.set {H : Hp} {ms : List Addr} {p : Addr} {o u : HO} (h : H p = some u) (m : Mut (some u)) (hp : p ∈ ms) : Ext H ms (upd H p o) ms :=
  ⟨Grow.set h m, fun a v e hn => by
    have z : a ≠ p := fun q => hn (by rw [q]; exact hp)
    rw [upd_ne z]; exact e, fun a v e => upd_trk a v e, [], by simp, fun _ h => nomatch h⟩
theorem Ext.later {H H1 : Hp} {ms ms1 : List Addr} (x : Ext H ms H1 ms1) {p : Addr} {o u : HO} (h0 : H p = Option.none) (h : H1 p = some u) (m : Mut (some u)) : Ext H ms (upd H1 p o) ms1 := by
  refine ⟨x.toGrow.trans (Grow.set h m), fun a v e hn => ?_, fun a v e => ?_, x.px⟩
  · rw [upd_ne (ne_of_none e h0)]
    exact x.keep a v e hn
  · obtain ⟨v', e'⟩ := x.trk a v e
    exact upd_trk a v' e'
theorem Ext.cell {H H1 : Hp} {ms ms1 : List Addr} (x : Ext H ms H1 ms1) {p : Addr} (h0 : H p = Option.none) : Ext H ms H1 (ms1 ++ [p]) := by
  obtain ⟨t, e, h⟩ := x.px
  refine ⟨x.toGrow, x.keep, x.trk, t ++ [p], by rw [e, List.append_assoc], fun b hb => ?_⟩
  rcases List.mem_append.mp hb with z | z
  · exact h b z
  · have e : b = p := by simpa using z
    rw [e]; exact h0
theorem Ext.get {H H' : Hp} {a b : List Addr} (h : Ext H a H' b) {n : Nat} {x : Addr} (e : a[n]? = some x) : b[n]? = some x := by
  obtain ⟨t, rfl, _⟩ := h.px
  rw [List.getElem?_append_left (List.getElem?_eq_some_iff.mp e).1]
  exact e
theorem RelI.grow {T : Tab} {K : PySem.W.Frag} {ms ms' : List Addr} {H H' : Hp} (g : Ext H ms H' ms') : ∀ {v : IV} {u : V}, RelI T K ms H v u → RelI T K ms' H' v u
  | .d _, _, h => Fz.grow g.toGrow h
  | .ref _, _, ⟨a, h, e⟩ => ⟨a, g.get h, e⟩
  | .exc _ _, _, h => h
structure Sim (T : Tab) (K : PySem.W.Frag) (ms : List Addr) (H : Hp) (iσ : Sl) (σ : List (Option V)) (w : W) : Prop where
  len : iσ.length = σ.length
  sl : ∀ i v, slot iσ i = some v → ∃ u, σ[i]? = some (some u) ∧ RelI T K ms H v u
  w : RelW K ms H w
theorem Sim.grow {T : Tab} {K : PySem.W.Frag} {ms ms' : List Addr} {H H' : Hp} {iσ : Sl} {σ : List (Option V)} {w w' : W} (s : Sim T K ms H iσ σ w) (g : Ext H ms H' ms') (r : RelW K ms' H' w') : Sim T K ms' H' iσ σ w' :=
  ⟨s.len, fun i v e => let ⟨u, h1, h2⟩ := s.sl i v e; ⟨u, h1, h2.grow g⟩, r⟩
theorem slot_set {σ : Sl} {i j : Nat} {x : Option IV} : slot (σ.set i x) j = if i = j then (if i < σ.length then x else none) else slot σ j := by
  unfold slot
  by_cases h : i = j
  · subst h
    rw [if_pos rfl]
    by_cases hi : i < σ.length
    · rw [List.getElem?_set_self hi, if_pos hi]; rfl
    · rw [if_neg hi, List.getElem?_eq_none (by simpa using hi)]; rfl
  · rw [if_neg h, List.getElem?_set_ne h]
theorem Sim.set {T : Tab} {K : PySem.W.Frag} {ms : List Addr} {H : Hp} {iσ : Sl} {σ : List (Option V)} {w : W} (s : Sim T K ms H iσ σ w) {i : Nat} {v : IV} {u : V} (r : RelI T K ms H v u) : Sim T K ms H (iσ.set i (some v)) (σ.set i (some u)) w := by
  refine ⟨by simp [s.len], fun j z e => ?_, s.w⟩
  rw [slot_set] at e
  split at e
  · rename_i hj
    subst hj
    split at e
    · rename_i hi
      cases e
      exact ⟨u, List.getElem?_set_self (by rw [← s.len]; exact hi), r⟩
    · cases e
  · rename_i hj
    obtain ⟨u', h1, h2⟩ := s.sl j z e
    exact ⟨u', by rw [List.getElem?_set_ne hj]; exact h1, h2⟩
theorem Sim.del {T : Tab} {K : PySem.W.Frag} {ms : List Addr} {H : Hp} {iσ : Sl} {σ : List (Option V)} {w : W} (s : Sim T K ms H iσ σ w) {i : Nat} : Sim T K ms H (iσ.set i none) (σ.set i none) w := by
  refine ⟨by simp [s.len], fun j z e => ?_, s.w⟩
  rw [slot_set] at e
  split at e
  · split at e <;> cases e
  · rename_i hj
    obtain ⟨u', h1, h2⟩ := s.sl j z e
    exact ⟨u', by rw [List.getElem?_set_ne hj]; exact h1, h2⟩
theorem Sim.wipe {T : Tab} {K : PySem.W.Frag} {ms : List Addr} {H : Hp} {iσ : Sl} {σ : List (Option V)} {w : W} (s : Sim T K ms H iσ σ w) : ∀ vs : List Nat, Sim T K ms H (wip iσ vs) (wipe σ vs) w
  | [] => s
  | v :: vs => (Sim.wipe s vs).del
def Xw (T : Tab) (K : PySem.W.Frag) (ms : List Addr) (H : Hp) (P : Value → Option Addr → Hp → Prop) (c : Nat) (x : D) (w' : W) : Prop :=
  ∀ (d : Addr) (v : V) (H' : Hp) (ms' : List Addr), Ext H ms H' ms' → H' d = some (.xd [(("value" : Str), v)]) → Fz K H' v x → RelW K ms' H' w' → P (.ref (T.cls c)) (some d) H'
abbrev Rel (α β : Type) := Hp → List Addr → Hp → α → β → Prop
class RM {α β : Type} (rel : Rel α β) : Prop where
  mono : ∀ {H ms H1 ms1 m' H' a b}, Ext H ms H1 ms1 → rel H1 m' H' a b → rel H m' H' a b
def endsR {α β : Type} (T : Tab) (K : PySem.W.Frag) (ms : List Addr) (H : Hp) (P : Value → Option Addr → Hp → Prop) (rel : Rel α β) (Q : β → Hp → Prop) : R α → Prop
  | .ok a w' => ∀ (b : β) (H' : Hp) (ms' : List Addr), Ext H ms H' ms' → rel H ms' H' a b → RelW K ms' H' w' → Q b H'
  | .exc c x w' => Xw T K ms H P c x w'
  | .no => False
section
variable {α β γ δ : Type} {T : Tab} {K : PySem.W.Frag} {ms ms' : List Addr} {H H' : Hp} {P P' : Value → Option Addr → Hp → Prop} {rel : Rel α β} {rel' : Rel γ δ} {Q Q' : β → Hp → Prop} {r : R α}
theorem endsR.grow [RM rel] (g : Ext H ms H' ms') (h : endsR T K ms H P rel Q r) : endsR T K ms' H' P rel Q r := by
  cases r with
  | ok a w => exact fun b H2 ms2 g2 r2 => h b H2 ms2 (g.trans g2) (RM.mono g r2)
  | exc c x w => exact fun d v H2 ms2 g2 => h d v H2 ms2 (g.trans g2)
  | no => exact h
theorem endsR.mono (h : endsR T K ms H P rel Q r) (q : ∀ b H', Q b H' → Q' b H') : endsR T K ms H P rel Q' r := by
  cases r with
  | ok a w => exact fun b H2 ms2 g2 r2 w2 => q b H2 (h b H2 ms2 g2 r2 w2)
  | exc c x w => exact h
  | no => exact h
theorem endsR.bind [RM rel'] {f : α → W → R γ} {Q2 : δ → Hp → Prop} (h : endsR T K ms H P rel' Q2 (r.bind f))
    (q : ∀ (a : α) (w1 : W) (b : β) (H1 : Hp) (ms1 : List Addr), Ext H ms H1 ms1 → rel H ms1 H1 a b → RelW K ms1 H1 w1 → endsR T K ms1 H1 P rel' Q2 (f a w1) → Q b H1) : endsR T K ms H P rel Q r := by
  cases r with
  | ok a w => exact fun b H2 ms2 g2 r2 w2 => q a w b H2 ms2 g2 r2 w2 (endsR.grow g2 h)
  | exc c x w => exact h
  | no => exact h
end
def relI (T : Tab) (K : PySem.W.Frag) : Rel IV V := fun _ ms H v u => RelI T K ms H v u
instance {T : Tab} {K : PySem.W.Frag} : RM (relI T K) := ⟨fun _ h => h⟩
def tI (T : Tab) (K : PySem.W.Frag) (Wx : WX) (f : Sl → W → R IV) : TE := fun σ H Q => ∃ ms iσ w, Sim T K ms H iσ σ w ∧ endsR T K ms H (fun c d H' => Wx c d σ H') (relI T K) Q (f iσ w)
def RelA (T : Tab) (K : PySem.W.Frag) (ms : List Addr) (H : Hp) : List IV → List V → Prop := Paired (RelI T K ms H)
def relA (T : Tab) (K : PySem.W.Frag) : Rel (List IV) (List V) := fun _ ms H v u => RelA T K ms H v u
instance {T : Tab} {K : PySem.W.Frag} : RM (relA T K) := ⟨fun _ h => h⟩
theorem RelA.grow {T : Tab} {K : PySem.W.Frag} {ms ms' : List Addr} {H H' : Hp} (g : Ext H ms H' ms') {v : List IV} {u : List V} (h : RelA T K ms H v u) : RelA T K ms' H' v u := Paired.mapP h fun _ _ r => r.grow g
def tIA (T : Tab) (K : PySem.W.Frag) (Wx : WX) (f : Sl → W → R (List IV)) : TA := fun σ H Q => ∃ ms iσ w, Sim T K ms H iσ σ w ∧ endsR T K ms H (fun c d H' => Wx c d σ H') (relA T K) Q (f iσ w)
theorem PE.imp {X : Cx} {e : Expr} {t t' : TE} (h : PE X e t) (i : ∀ σ H Q, t' σ H Q → t σ H Q) : PE X e t' := ⟨fun pins s σ H Q I q => h.run pins s σ H Q I (i σ H Q q)⟩
theorem PT.imp {X : Cx} {e : Expr} {t t' : TT} (h : PT X e t) (i : ∀ σ H Q, t' σ H Q → t σ H Q) : PT X e t' := ⟨fun pins s σ H Q I q => h.run pins s σ H Q I (i σ H Q q)⟩
theorem PW.imp {X : Cx} {e : Expr} {t t' : TT} (h : PW X e t) (i : ∀ σ H Q, t' σ H Q → t σ H Q) : PW X e t' := ⟨fun wh pins s σ H Q I q => h.run wh pins s σ H Q I (i σ H Q q)⟩
theorem PA.imp {X : Cx} {e : List Expr} {t t' : TA} (h : PA X e t) (i : ∀ σ H Q, t' σ H Q → t σ H Q) : PA X e t' := ⟨fun pos pins s σ H Q I q => h.run pos pins s σ H Q I (i σ H Q q)⟩
theorem PS.imp {X : Cx} {e : Stmt} {t t' : TS} (h : PS X e t) (i : ∀ D σ H, t' D σ H → t D σ H) : PS X e t' := ⟨fun pins s σ H D I q => h.run pins s σ H D I (i D σ H q)⟩
theorem PSs.imp {X : Cx} {e : List Stmt} {t t' : TS} (h : PSs X e t) (i : ∀ D σ H, t' D σ H → t D σ H) : PSs X e t' := ⟨fun pins s σ H D I q => h.run pins s σ H D I (i D σ H q)⟩
section
variable {T : Tab} {K : PySem.W.Frag} {Wx : WX} {f : Sl → W → R IV} {ms : List Addr} {H : Hp} {iσ : Sl} {σ : List (Option V)} {w : W}
theorem stepI {γ δ : Type} {rel' : Rel γ δ} [RM rel'] {g : IV → W → R γ} {Q : δ → Hp → Prop} {Q' : V → Hp → Prop} (s : Sim T K ms H iσ σ w) (h : endsR T K ms H (fun c d H' => Wx c d σ H') rel' Q ((f iσ w).bind g))
    (k : ∀ (v : IV) (w1 : W) (u : V) (H1 : Hp) (ms1 : List Addr), Ext H ms H1 ms1 → RelI T K ms1 H1 v u → Sim T K ms1 H1 iσ σ w1 → endsR T K ms1 H1 (fun c d H' => Wx c d σ H') rel' Q (g v w1) → Q' u H1) : tI T K Wx f σ H Q' :=
  ⟨ms, iσ, w, s, h.bind fun a w1 b H1 ms1 g1 r1 w1' e => k a w1 b H1 ms1 g1 r1 (s.grow g1 w1') e⟩
theorem stepA {γ δ : Type} {rel' : Rel γ δ} [RM rel'] {f : Sl → W → R (List IV)} {g : List IV → W → R γ} {Q : δ → Hp → Prop} {Q' : List V → Hp → Prop} (s : Sim T K ms H iσ σ w) (h : endsR T K ms H (fun c d H' => Wx c d σ H') rel' Q ((f iσ w).bind g))
    (k : ∀ (v : List IV) (w1 : W) (u : List V) (H1 : Hp) (ms1 : List Addr), Ext H ms H1 ms1 → RelA T K ms1 H1 v u → Sim T K ms1 H1 iσ σ w1 → endsR T K ms1 H1 (fun c d H' => Wx c d σ H') rel' Q (g v w1) → Q' u H1) : tIA T K Wx f σ H Q' :=
  ⟨ms, iσ, w, s, h.bind fun a w1 b H1 ms1 g1 r1 w1' e => k a w1 b H1 ms1 g1 r1 (s.grow g1 w1') e⟩
theorem endI {α β : Type} {rel : Rel α β} {P : Value → Option Addr → Hp → Prop} {Q : β → Hp → Prop} {a : α} {b : β} (h : endsR T K ms H P rel Q (.ok a w)) (r : rel H ms H a b) (rw' : RelW K ms H w) : Q b H := h b H ms (Ext.refl H ms) r rw'
end
end Pv
namespace PySem.PvX
open PySem PySem.W PySem.Calls PyProof.Rows
open Builtin Builtin.Tuple
theorem tuple_mul_one (l : Addr) (items : Array Value) (n : Nat) (dd : Option Addr) (sl : Array (Option Value)) (x : Int) (u : Tok) (c0 : (decide (x < -(2 ^ 63)) || decide (x ≥ 2 ^ 63)) = false) (c1 : (items.isEmpty || x == 1) = true) :
    Meets (Builtin.«tuple.__mul__» ⟨[.ref l, .int x u], []⟩) (fun _ R s => s.heap.get? l = some { cls := .type "tuple", dict := dd, data := .seq items n, slots := sl } ∧ R (.ok (.ret (Value.ref l))) s) :=
  .of_wp fun prog w A R s h => by
    obtain ⟨hp, g, d, tk, os⟩ := s
    obtain ⟨hl, h⟩ := h
    have f1 := AutoSeq1.idx_int
    wp_walk using wpAny_loadPart' hl
    repeat (first
      | (refine wpAny_ite_false (decide_eq_false (by rw [c0]; exact Bool.false_ne_true)) ?_; wp_walk using wpAny_loadPart' hl)
      | (refine wpAny_ite_true (decide_eq_true (by rw [c1])) ?_; wp_walk using wpAny_loadPart' hl))
    exact ⟨_, rfl, h⟩
theorem tuple_mul_none (l : Addr) (items : Array Value) (n : Nat) (dd : Option Addr) (sl : Array (Option Value)) (x : Int) (u : Tok) (c0 : (decide (x < -(2 ^ 63)) || decide (x ≥ 2 ^ 63)) = false) (c1 : (items.isEmpty || x == 1) = false) (c2 : (decide (x ≤ 0) || items.isEmpty) = true) :
    Meets (Builtin.«tuple.__mul__» ⟨[.ref l, .int x u], []⟩) (fun _ R s => s.heap.get? l = some { cls := .type "tuple", dict := dd, data := .seq items n, slots := sl } ∧
      R (.ok (.ret (Value.ref s.heap.objs.size))) { s with heap := s.heap.push { cls := Value.type "tuple", data := Data.seq #[] }, toks := s.toks }) :=
  .of_wp fun prog w A R s h => by
    obtain ⟨hp, g, d, tk, os⟩ := s
    obtain ⟨hl, h⟩ := h
    have f1 := AutoSeq1.idx_int
    wp_walk using wpAny_loadPart' hl
    repeat (first
      | (refine wpAny_ite_false (decide_eq_false (by rw [c0]; exact Bool.false_ne_true)) ?_; wp_walk using wpAny_loadPart' hl)
      | (refine wpAny_ite_false (decide_eq_false (by rw [c1]; exact Bool.false_ne_true)) ?_; wp_walk using wpAny_loadPart' hl)
      | (refine wpAny_ite_true (decide_eq_true (by rw [c2])) ?_; wp_walk using wpAny_loadPart' hl))
    exact ⟨_, rfl, h⟩
end PySem.PvX
namespace Pv
open PySem PySem.Spec PyProof.Rows L2
section
variable {X : Cx} {pins : List (Addr × Obj)} {σ : List (Option V)} {H : Hp} {s : Shared} {l a : Addr} {xs ys : List V}
theorem Inv.lstR (I : Inv X pins σ H s) (hH : Rd H l (.lst xs)) : xs.length ≤ sizeLine ∧ ∃ (its : List Value) (n : Nat), Vals xs its ∧ xs.length = its.length ∧ s.heap.get? l = some { cls := .type "list", data := .seq its.toArray n } := by
  obtain ⟨z, its, n, r, e⟩ := hH.ok I.hok
  exact ⟨z, its, n, r, r.length, e⟩
def rCatR : R2 := fun x y H Q => ∃ l b xs zs, x = .ref l ∧ y = .ref b ∧ Rd H l (.lst xs) ∧ Rd H b (.lst zs) ∧ xs.length + zs.length ≤ sizeLine ∧ ∀ p, H p = none → Q (.ref p) (upd H p (.lst (xs ++ zs)))
theorem op_catR : OpR X (binaryOp .Add) rCatR := by
  intro pins s σ H x y v u Q I rx ry h
  obtain ⟨l, b, xs, zs, rfl, rfl, hH, hB, hz, q⟩ := h
  cases rx
  cases ry
  obtain ⟨z, its, n, r, hl, e⟩ := Inv.lstR I hH
  obtain ⟨z2, its2, n2, r2, hl2, e2⟩ := Inv.lstR I hB
  refine PySem.P.add_list e e2 ?_ (by rw [List.size_toArray, List.size_toArray]; omega)
  have ea : its.toArray ++ its2.toArray = (its ++ its2).toArray := by simp
  rw [ea]
  exact ⟨.ref _, _, I.lnew (t' := s.toks) (r.append r2) (by rw [List.length_append]; omega), rfl, q _ I.fresh⟩
def rRepR : R2 := fun x y H Q => ∃ l k xs, x = .ref l ∧ y = .int k ∧ Rd H l (.lst xs) ∧ -(2 ^ 63) ≤ k ∧ k < 2 ^ 63 ∧ xs.length * k.toNat ≤ sizeLine ∧
  ∀ p, H p = none → Q (.ref p) (upd H p (.lst (List.replicate k.toNat xs).flatten))
theorem op_repR : OpR X (binaryOp .Mult) rRepR := by
  intro pins s σ H x y v u Q I rx ry h
  obtain ⟨l, k, xs, rfl, rfl, hH, h1, h2, hz, q⟩ := h
  cases rx
  obtain ⟨t, rfl⟩ := ry
  obtain ⟨z, its, n, r, hl, e⟩ := Inv.lstR I hH
  have hlen : its.toArray.size * k.toNat ≤ sizeLine := by rw [List.size_toArray, ← hl]; exact hz
  have hcap : ¬ its.toArray.size * k.toNat > (2 ^ 63 - 1) / 8 := by
    have : (sizeLine : Nat) ≤ (2 ^ 63 - 1) / 8 := by decide
    omega
  have hfit : ¬ (!Builtin.List.listFitsIndex k) = true := by rw [fitsIndex_both h1 h2]; exact Bool.false_ne_true
  have hlong : ¬ Builtin.List.listTooLong (its.toArray.size * k.toNat) = true := by rw [notLongL hlen]; exact Bool.false_ne_true
  have hnew : List.foldl (fun x1 x2 => x1 ++ x2) #[] (List.replicate (if its.toArray.isEmpty = true then 0 else k.toNat) its.toArray) = (List.replicate k.toNat its).flatten.toArray := by
    have f0 : ∀ m : Nat, List.foldl (fun x1 x2 => x1 ++ x2) #[] (List.replicate m its.toArray) = (List.replicate m its).flatten.toArray := fun m => size_rep its m
    rw [f0]
    cases its with
    | nil => simp
    | cons a r' => rw [if_neg (by simp)]
  refine wpAny_binaryOp_repeat_ref (T := "list") (U := "int") (by decide) ⟨_, e, rfl⟩ (fun s' => typeIs_int s' k t) noFill_list_mul F.fills_int_mul F.slot_int_rmul repeat_list F.slot_int_index.lookup
    (call_meets F.slot_int_rmul (typeIs_int s k t) F.entry_int_rmul (F.args_int_rmul_2 _ _) (int___rmul___int_list k t l its.toArray n)
      ⟨e, rfl, ⟨_, e, rfl⟩, call_meets F.slot_list_mul ⟨_, e, rfl⟩ F.entry_list_mul (F.args_list_mul_2 _ _) (AutoListH.list___mul___list_int_3 l its.toArray n k t hfit hcap hlong) ⟨e, ?_⟩⟩)
  rw [hnew]
  exact ⟨.ref _, _, I.lnew (t' := s.toks) (r.rep k.toNat) (by rw [PyProof.Rows.lm_len_rep_flat, Nat.mul_comm]; exact hz), rfl, q _ I.fresh⟩
def rRepA (K : PySem.W.Frag) : R2 := fun x y H Q => ∃ l k xs, x = .ref l ∧ y = .int k ∧ SqT K H l xs ∧ -1000 ≤ k ∧ k ≤ 1000 ∧ xs.length ≤ 1000 ∧
  ((xs = [] ∨ k = 1) → Q (.ref l) H) ∧ ∀ p, H p = none → Q (.ref p) (upd H p (.tup (List.replicate k.toNat xs).flatten))
theorem op_repA : OpR X (binaryOp .Mult) (rRepA X.K) := by
  intro pins s σ H x y v u Q I rx ry h
  obtain ⟨l, k, xs, rfl, rfl, hT, h1, h2, hz, q0, q⟩ := h
  by_cases big : xs ≠ [] ∧ 2 ≤ k
  · exact op_repT pins s σ H _ _ v u Q I rx ry ⟨l, k, xs, rfl, rfl, hT, big.1, big.2, h2, hz, q⟩
  cases rx
  obtain ⟨t, rfl⟩ := ry
  obtain ⟨its, r, ⟨⟨cls, dd, data, sl⟩, ho, hc, n, hd⟩, hs⟩ := I.tuple hT
  simp only at hc hd
  subst hc hd
  have hle : its.length = xs.length := r.length.symm
  have c0 : (decide (k < -(2 ^ 63)) || decide (k ≥ 2 ^ 63)) = false := by rw [decide_eq_false (by omega), decide_eq_false (by omega)] <;> rfl
  have hem : its.toArray.isEmpty = xs.isEmpty := by
    cases xs with
    | nil => cases its with
      | nil => rfl
      | cons a b => simp at hle
    | cons a b => cases its with
      | nil => simp at hle
      | cons a b => rfl
  refine wpAny_binaryOp_repeat_ref (T := "tuple") (U := "int") (by decide) ⟨_, ho, rfl⟩ (fun s' => typeIs_int s' k t) noFill_tuple_mul F.fills_int_mul F.slot_int_rmul repeat_tuple F.slot_int_index.lookup
    (call_meets F.slot_int_rmul (typeIs_int s k t) F.entry_int_rmul (F.args_int_rmul_2 _ _) (int_rmul_tuple k t l its.toArray n dd sl)
      ⟨ho, rfl, ⟨_, ho, rfl⟩, ?_⟩)
  by_cases one : xs = [] ∨ k = 1
  · have c1 : (its.toArray.isEmpty || k == 1) = true := by
      rw [hem]
      rcases one with e | e
      · subst e; rfl
      · subst e; simp
    exact call_meets F.slot_tuple_mul ⟨_, ho, rfl⟩ F.entry_tuple_mul (F.args_tuple_mul_2 _ _) (PvX.tuple_mul_one l its.toArray n dd sl k t c0 c1) ⟨ho, .ref l, H, I, rfl, q0 one⟩
  · have hk : k ≤ 0 := by
      have a1 : ¬ k = 1 := fun e => one (.inr e)
      have a2 : ¬ 2 ≤ k := fun e => big ⟨fun z => one (.inl z), e⟩
      omega
    have hne : xs.isEmpty = false := by
      cases xs with
      | nil => exact absurd (.inl rfl) one
      | cons a b => rfl
    have c1 : (its.toArray.isEmpty || k == 1) = false := by rw [hem, hne, Bool.false_or]; exact beq_eq_false_iff_ne.mpr (by omega)
    have c2 : (decide (k ≤ 0) || its.toArray.isEmpty) = true := by rw [decide_eq_true hk]; rfl
    have e0 : (List.replicate k.toNat xs).flatten = [] := by rw [show k.toNat = 0 by omega]; rfl
    rw [e0] at q
    refine call_meets F.slot_tuple_mul ⟨_, ho, rfl⟩ F.entry_tuple_mul (F.args_tuple_mul_2 _ _) (PvX.tuple_mul_none l its.toArray n dd sl k t c0 c1 c2) ⟨ho, ?_⟩
    exact ⟨.ref s.heap.objs.size, _, I.laid (t' := s.toks) (o := .tup []) (fun b ob q => Heap.get?_push_of_some _ q) (Nat.le_refl _) ⟨by rw [sizeLine_eq]; decide, [], .nil, IsTup.new _ _⟩, rfl, q _ (I.hok.fresh (Nat.le_refl _))⟩
end
inductive Lv (K : PySem.W.Frag) (H : Hp) : V → D → Prop
  | fz {v : V} {d : D} : Fz K H v d → Lv K H v d
  | lst {a : Addr} {xs : List V} {ds : List D} : H a = some (.lst xs) → FzAll K H xs ds → Lv K H (.ref a) (.list ds)
section
variable {K : PySem.W.Frag} {H : Hp} {v : V} {T : Tab} {ms : List Addr} {w : W} {u : IV}
theorem Lv.dp {d : D} (h : Lv K H v d) (p : d.plain = true) : Dp K H v d := by
  cases h with
  | fz h => exact h.dp p
  | lst h r => exact .lst (.of h) (r.dp (by simpa [PyData.plain] using p))
theorem Lv.list {ds : List D} (h : Lv K H v (.list ds)) : ∃ a xs, v = .ref a ∧ Rd H a (.lst xs) ∧ FzAll K H xs ds := by
  cases h with
  | fz h => cases h with | lst h r => exact ⟨_, _, rfl, h.rd, r⟩
  | lst h r => exact ⟨_, _, rfl, .inl h, r⟩
theorem Lv.tuple {ds : List D} (h : Lv K H v (.tuple ds)) : ∃ a xs, v = .ref a ∧ SqT K H a xs ∧ FzAll K H xs ds := by
  cases h with
  | fz h => cases h with | tup h r => exact ⟨_, _, rfl, h, r⟩
theorem Lv.int {i : Int} (h : Lv K H v (.int i)) : v = .int i := by cases h with | fz h => cases h; rfl
theorem Lv.bl {b : Bool} (h : Lv K H v (.bool b)) : v = .bl b := by cases h with | fz h => cases h; rfl
theorem Lv.str {b : Str} (h : Lv K H v (.str b)) : v = .str b := by cases h with | fz h => cases h; rfl
theorem Lv.non (h : Lv K H v .none) : v = .non := by cases h with | fz h => cases h; rfl
theorem rd_lv {d : D} (r : RelI T K ms H u v) (rw' : RelW K ms H w) (e : rd w u = some d) : Lv K H v d := by
  cases u with
  | d x => cases e; exact .fz r
  | ref n =>
    obtain ⟨a, h1, rfl⟩ := r
    simp only [rd] at e
    cases hc : w[n]? with
    | none => rw [hc] at e; cases e
    | some c =>
      rw [hc] at e
      cases c with
      | lst xs =>
        cases e
        obtain ⟨xs', h2, h3⟩ := rw'.at_ n _ a hc h1
        exact .lst h2 h3
      | dct _ => cases e
      | mix _ => cases e
      | dead => cases e
  | exc c x => cases e
end
def RelF (T : Tab) (K : PySem.W.Frag) : Rel IV V := fun H0 ms H v u => match v with
  | .d (.list ds) => ∃ a xs, u = .ref a ∧ H0 a = none ∧ a ∉ ms ∧ H a = some (.lst xs) ∧ FzAll K H xs ds
  | v => RelI T K ms H v u
instance {T : Tab} {K : PySem.W.Frag} : RM (RelF T K) := ⟨fun {H ms H1 ms1 m' H' a b} g h => by
  cases a with
  | d x => cases x with
    | list ds =>
      obtain ⟨p, xs, e, h0, r⟩ := h
      exact ⟨p, xs, e, g.none h0, r⟩
    | _ => exact h
  | ref n => exact h
  | exc c x => exact h⟩
def rF2 (T : Tab) (K : PySem.W.Frag) (g : IV → IV → W → R IV) : R2 := fun x y H Q => ∃ ms w u v P, RelI T K ms H u x ∧ RelI T K ms H v y ∧ RelW K ms H w ∧ endsR T K ms H P (RelF T K) Q (g u v w)
def rI2 (T : Tab) (K : PySem.W.Frag) (g : IV → IV → W → R IV) : R2 := fun x y H Q => ∃ ms w u v P, RelI T K ms H u x ∧ RelI T K ms H v y ∧ RelW K ms H w ∧ endsR T K ms H P (relI T K) Q (g u v w)
def binV (o : Operator) (u v : IV) (w : W) : R IV := match rd w u, rd w v with
  | some x, some y => ofO ((binD o x y).map IV.d) w
  | _, _ => .no
theorem sz_of {n : Nat} (h : okL n = true) : n ≤ sizeLine := by rw [sizeLine_eq]; exact of_decide_eq_true h
theorem end_tup {T : Tab} {K : PySem.W.Frag} {ms : List Addr} {H : Hp} {P : Value → Option Addr → Hp → Prop} {Q : VK} {w : W} {ds : List D} {xs : List V} (h : endsR T K ms H P (relI T K) Q (.ok (.d (.tuple ds)) w)) (rw' : RelW K ms H w) (r : FzAll K H xs ds)
    {p : Addr} (hp : H p = none) : Q (.ref p) (upd H p (.tup xs)) :=
  h _ _ ms (Ext.new hp) (show Fz K _ _ _ from .tup (.of upd_same) (r.grow (Grow.new hp))) (rw'.new hp)
theorem end_lst {T : Tab} {K : PySem.W.Frag} {ms : List Addr} {H : Hp} {P : Value → Option Addr → Hp → Prop} {Q : VK} {w : W} {ds : List D} {xs : List V} (h : endsR T K ms H P (RelF T K) Q (.ok (.d (.list ds)) w)) (rw' : RelW K ms H w) (r : FzAll K H xs ds)
    {p : Addr} (hp : H p = none) : Q (.ref p) (upd H p (.lst xs)) :=
  h (.ref p) (upd H p (.lst xs)) ms (Ext.new hp) (by
    refine ⟨p, xs, rfl, hp, fun z => ?_, upd_same, r.grow (Grow.new hp)⟩
    obtain ⟨u, e⟩ := rw'.mem z
    rw [hp] at e; cases e) (rw'.new hp)
theorem relF_I {T : Tab} {K : PySem.W.Frag} {H0 : Hp} {ms : List Addr} {H : Hp} {x : D} {u : V} (h : ∀ ds, x ≠ .list ds) (r : Fz K H u x) : RelF T K H0 ms H (.d x) u := by
  cases x with
  | list ds => exact absurd rfl (h ds)
  | _ => exact r
theorem endF_tup {T : Tab} {K : PySem.W.Frag} {ms : List Addr} {H : Hp} {P : Value → Option Addr → Hp → Prop} {Q : VK} {w : W} {ds : List D} {xs : List V} (h : endsR T K ms H P (RelF T K) Q (.ok (.d (.tuple ds)) w)) (rw' : RelW K ms H w) (r : FzAll K H xs ds)
    {p : Addr} (hp : H p = none) : Q (.ref p) (upd H p (.tup xs)) :=
  h _ _ ms (Ext.new hp) (show Fz K _ _ _ from .tup (.of upd_same) (r.grow (Grow.new hp))) (rw'.new hp)
theorem log2_lt {i : Int} (h : okI i = true) : i.natAbs.log2 < 60000000 := of_decide_eq_true h
theorem mul_ok {i j : Int} (hi : okI i = true) (hj : okI j = true) : IntMulOk i j := by
  refine CMulX.ok ?_
  have b : ∀ x : Int, Builtin.Int.intBits x ≤ x.natAbs.log2 + 1 := fun x => by unfold Builtin.Int.intBits; split <;> omega
  have h1 := b i
  have h2 := b j
  have h3 := log2_lt hi
  have h4 := log2_lt hj
  unfold CMulX
  omega
theorem div_ok {i j : Int} (h : okDiv i j = true) : j ≠ 0 ∧ Builtin.divisionGoesByPylong i j = false := by
  unfold okDiv at h
  rw [Bool.and_eq_true, Bool.or_eq_true, decide_eq_true_eq, decide_eq_true_eq, bne_iff_ne] at h
  refine ⟨h.1, ?_⟩
  rcases h.2 with h' | h'
  · exact PyProof.noPylong_of_log2 h'
  · show (decide ((if j == 0 then 0 else j.natAbs.log2 / 30 + 1) > 300) && decide ((if i == 0 then 0 else i.natAbs.log2 / 30 + 1) > (if j == 0 then 0 else j.natAbs.log2 / 30 + 1) + 150)) = false
    rw [if_neg (show ¬ (j == 0) = true by simpa using h.1)]
    have k : ¬ ((if i == 0 then 0 else i.natAbs.log2 / 30 + 1) > j.natAbs.log2 / 30 + 1 + 150) := by
      split <;> omega
    rw [decide_eq_false k, Bool.and_false]
theorem bin_ok {T : Tab} {X : Cx} (o : Operator) : OpR X (binaryOp o) (rF2 T X.K (binV o)) := by
  intro pins s σ H x y v u Q I rx ry h
  obtain ⟨ms, w, a, b, P, ra, rb, rw', h⟩ := h
  unfold binV at h
  cases ea : rd w a with
  | none => rw [ea] at h; cases rd w b <;> exact False.elim h
  | some d =>
  cases eb : rd w b with
  | none => rw [ea, eb] at h; exact False.elim h
  | some e =>
  rw [ea, eb] at h
  have la := rd_lv ra rw' ea
  have lb := rd_lv rb rw' eb
  dsimp only at h
  have fin : ∀ z : D, binD o d e = some z → (∀ ds, z ≠ .list ds) → ∀ q : V, Fz X.K H q z → Q q H := fun z hz hn q hq => by
    rw [hz] at h
    exact endI h (relF_I hn hq) rw'
  unfold binD at h fin
  split at h
  · cases la.int; cases lb.int
    exact op_add pins s σ H _ _ v u Q I rx ry ⟨_, _, rfl, rfl, fin _ rfl (fun _ z => by cases z) _ (.int _)⟩
  · cases la.str; cases lb.str
    split at h
    · rename_i hz
      exact op_add_str pins s σ H _ _ v u Q I rx ry ⟨_, _, rfl, rfl, sz_of hz, endI h (relF_I (fun _ z => by cases z) (.str _)) rw'⟩
    · exact False.elim h
  · obtain ⟨a1, xs, rfl, h1, f1⟩ := la.tuple
    obtain ⟨a2, ys, rfl, h2, f2⟩ := lb.tuple
    split at h
    · rename_i hz
      refine op_catA pins s σ H _ _ v u Q I rx ry ⟨a1, a2, xs, ys, rfl, rfl, h1, h2, by rw [f1.length, f2.length]; exact sz_of hz, fun e => ?_, fun _ e => ?_, fun _ _ p hp => endF_tup h rw' (f1.append f2) hp⟩
      · subst e
        cases f1
        exact endI h (relF_I (fun _ z => by cases z) (.tup h2 f2)) rw'
      · subst e
        cases f2
        rw [List.append_nil] at h
        exact endI h (relF_I (fun _ z => by cases z) (.tup h1 f1)) rw'
    · exact False.elim h
  · obtain ⟨a1, xs, rfl, h1, f1⟩ := la.list
    obtain ⟨a2, ys, rfl, h2, f2⟩ := lb.list
    split at h
    · rename_i hz
      exact op_catR pins s σ H _ _ v u Q I rx ry ⟨a1, a2, xs, ys, rfl, rfl, h1, h2, by rw [f1.length, f2.length]; exact sz_of hz, fun p hp => end_lst h rw' (f1.append f2) hp⟩
    · exact False.elim h
  · cases la.int; cases lb.int
    exact op_sub pins s σ H _ _ v u Q I rx ry ⟨_, _, rfl, rfl, fin _ rfl (fun _ z => by cases z) _ (.int _)⟩
  · cases la.int; cases lb.int
    split at h
    · rename_i hz
      rw [Bool.and_eq_true] at hz
      obtain ⟨t, rfl⟩ := rx
      obtain ⟨t', rfl⟩ := ry
      exact mul_int ⟨.int _, H, I.tok _, ⟨_, rfl⟩, endI h (relF_I (fun _ z => by cases z) (.int _)) rw'⟩ (mul_ok hz.1 hz.2)
    · exact False.elim h
  · cases lb.int
    obtain ⟨a1, xs, rfl, h1, f1⟩ := la.tuple
    split at h
    · rename_i hz
      simp only [Bool.and_eq_true, decide_eq_true_eq] at hz
      refine op_repA pins s σ H _ _ v u Q I rx ry ⟨a1, _, xs, rfl, rfl, h1, hz.2, hz.1.2, by rw [f1.length]; exact hz.1.1, fun e => ?_, fun p hp => endF_tup h rw' (f1.rep _) hp⟩
      refine endI h (relF_I (fun _ z => by cases z) ?_) rw'
      rcases e with e | e
      · subst e
        cases f1
        rw [show ∀ n : Nat, (List.replicate n ([] : List D)).flatten = [] from fun n => by induction n with | zero => rfl | succ n ih => rw [List.replicate_succ, List.flatten_cons, ih]; rfl]
        exact .tup h1 .nil
      · subst e
        rw [show (List.replicate (1 : Int).toNat _).flatten = _ from List.append_nil _]
        exact .tup h1 f1
    · exact False.elim h
  · cases lb.int
    obtain ⟨a1, xs, rfl, h1, f1⟩ := la.list
    split at h
    · rename_i hz
      simp only [Bool.and_eq_true, decide_eq_true_eq] at hz
      refine op_repR pins s σ H _ _ v u Q I rx ry ⟨a1, _, xs, rfl, rfl, h1, by omega, by omega, ?_, fun p hp => end_lst h rw' (f1.rep _) hp⟩
      rw [f1.length, sizeLine_eq]
      exact Nat.le_trans (Nat.mul_le_mul hz.1.1 (show _ ≤ 1000 by omega)) (by decide)
    · exact False.elim h
  · cases la.int; cases lb.int
    split at h
    · rename_i hz
      obtain ⟨k1, k2⟩ := div_ok hz
      obtain ⟨t, rfl⟩ := rx
      obtain ⟨t', rfl⟩ := ry
      exact floordiv_int k1 ⟨.int _, H, I.tok _, ⟨_, rfl⟩, endI h (relF_I (fun _ z => by cases z) (.int _)) rw'⟩ (.inl k2)
    · exact False.elim h
  · cases la.int; cases lb.int
    split at h
    · rename_i hz
      exact op_modN pins s σ H _ _ v u Q I rx ry ⟨_, _, rfl, rfl, by simpa using hz, endI h (relF_I (fun _ z => by cases z) (.int _)) rw'⟩
    · exact False.elim h
  · cases la.int; cases lb.int
    split at h
    · rename_i hz
      simp only [Bool.and_eq_true, decide_eq_true_eq] at hz
      exact op_pow pins s σ H _ _ v u Q I rx ry ⟨_, _, rfl, rfl, ⟨hz.1.1, hz.1.2, hz.2⟩, endI h (relF_I (fun _ z => by cases z) (.int _)) rw'⟩
    · exact False.elim h
  · exact False.elim h
end Pv
namespace Pv
open PySem PySem.Spec PyProof.Rows L2
section
variable {T : Tab} {K : PySem.W.Frag} {ms : List Addr} {H : Hp} {w : W}
theorem okD_iff {x : D} (h : okD x = true) : x.plain = true ∧ x.depth ≤ 60 := by
  unfold okD at h
  rw [Bool.and_eq_true, decide_eq_true_eq] at h
  exact h
theorem cmp_nn {o : CmpOp} {d : D} : cmpD o d .none = none ∨ o = .Eq ∨ o = .NotEq ∨ o = .Is ∨ o = .IsNot := by
  cases o <;> cases d <;> simp [cmpD]
theorem Fz.isN {v : V} {d : D} (h : Fz K H v d) : decide (v = .non) = isNone d := by
  cases h <;> rfl
theorem Lv.isN {v : V} {d : D} (h : Lv K H v d) : decide (v = .non) = isNone d := by
  cases h with
  | fz h => exact h.isN
  | lst h r => rfl
end
def rCmp (K : PySem.W.Frag) (o : CmpOp) : R2 := fun x y H Q => ∃ d e k, Lv K H x d ∧ Lv K H y e ∧ cmpD o d e = some k ∧ Q (.bl k) H
theorem min_le60 {d e : D} (h : d.depth ≤ 60) : min d.depth e.depth ≤ 60 := Nat.le_trans (Nat.min_le_left _ _) h
theorem cmp_ok {X : Cx} {k : Nat} (hr : Room k X.A) (o : CmpOp) : OpR X (compareOp o) (rCmp X.K o) := by
  intro pins s σ H x y v u Q I rx ry h
  obtain ⟨d, e, b, la, lb, hc, q⟩ := h
  have hu := hr.units
  have R1 := fun p => Dp.reads I d x v (la.dp p) rx
  have R2 := fun p => Dp.reads I e y u (lb.dp p) ry
  unfold cmpD at hc
  split at hc
  · split at hc
    · rename_i hz
      rw [Bool.and_eq_true] at hz
      cases hc
      obtain ⟨p1, d1⟩ := okD_iff hz.1
      obtain ⟨p2, d2⟩ := okD_iff hz.2
      obtain ⟨as, r1⟩ := R1 p1
      obtain ⟨bs, r2⟩ := R2 p2
      exact SeqAt.eq_plain r1 r2 p1 p2 (by have := Nat.min_le_left d.depth e.depth; omega) ⟨.bl _, H, I, rfl, q⟩
    · cases hc
  · split at hc
    · rename_i hz
      rw [Bool.and_eq_true] at hz
      cases hc
      obtain ⟨p1, d1⟩ := okD_iff hz.1
      obtain ⟨p2, d2⟩ := okD_iff hz.2
      obtain ⟨as, r1⟩ := R1 p1
      obtain ⟨bs, r2⟩ := R2 p2
      exact SeqAt.ne_plain r1 r2 p1 p2 (by have := Nat.min_le_left d.depth e.depth; omega) ⟨.bl _, H, I, rfl, q⟩
    · cases hc
  · cases hc; cases la.int; cases lb.int
    exact op_lt pins s σ H _ _ v u Q I rx ry ⟨_, _, rfl, rfl, q⟩
  · cases hc; cases la.int; cases lb.int
    exact op_le pins s σ H _ _ v u Q I rx ry ⟨_, _, rfl, rfl, q⟩
  · cases hc; cases la.int; cases lb.int
    exact op_gt pins s σ H _ _ v u Q I rx ry ⟨_, _, rfl, rfl, q⟩
  · cases hc; cases la.int; cases lb.int
    exact op_ge pins s σ H _ _ v u Q I rx ry ⟨_, _, rfl, rfl, q⟩
  · cases hc; cases lb.non
    refine op_isN pins s σ H _ _ v u Q I rx ry ⟨rfl, ?_⟩
    rw [la.isN]; exact q
  · cases hc; cases lb.non
    refine op_notN pins s σ H _ _ v u Q I rx ry ⟨rfl, ?_⟩
    rw [la.isN]; exact q
  · split at hc
    · rename_i hz
      rw [Bool.and_eq_true] at hz
      cases hc
      obtain ⟨p1, d1⟩ := okD_iff hz.1
      obtain ⟨p2, d2⟩ := okD_iff hz.2
      obtain ⟨as, r1⟩ := R1 p1
      obtain ⟨bs, r2⟩ := R2 p2
      exact SeqAt.in_list_data r2 r1 (by simpa [PyData.plain] using p2) p1 (by have := Nat.min_le_right (PyData.depthAll ‹List D›) d.depth; omega) ⟨.bl _, H, I, rfl, q⟩
    · cases hc
  · split at hc
    · rename_i hz
      rw [Bool.and_eq_true] at hz
      cases hc
      obtain ⟨p1, d1⟩ := okD_iff hz.1
      obtain ⟨p2, d2⟩ := okD_iff hz.2
      obtain ⟨as, r1⟩ := R1 p1
      obtain ⟨bs, r2⟩ := R2 p2
      exact SeqAt.in_tuple_data r2 r1 (by simpa [PyData.plain] using p2) p1 (by have := Nat.min_le_right (PyData.depthAll ‹List D›) d.depth; omega) ⟨.bl _, H, I, rfl, q⟩
    · cases hc
  · split at hc
    · rename_i hz
      rw [Bool.and_eq_true] at hz
      cases hc
      obtain ⟨p1, d1⟩ := okD_iff hz.1
      obtain ⟨p2, d2⟩ := okD_iff hz.2
      obtain ⟨as, r1⟩ := R1 p1
      obtain ⟨bs, r2⟩ := R2 p2
      exact SeqAt.notIn_list_data r2 r1 (by simpa [PyData.plain] using p2) p1 (by have := Nat.min_le_right (PyData.depthAll ‹List D›) d.depth; omega) ⟨.bl _, H, I, rfl, q⟩
    · cases hc
  · split at hc
    · rename_i hz
      rw [Bool.and_eq_true] at hz
      cases hc
      obtain ⟨p1, d1⟩ := okD_iff hz.1
      obtain ⟨p2, d2⟩ := okD_iff hz.2
      obtain ⟨as, r1⟩ := R1 p1
      obtain ⟨bs, r2⟩ := R2 p2
      exact SeqAt.notIn_tuple_data r2 r1 (by simpa [PyData.plain] using p2) p1 (by have := Nat.min_le_right (PyData.depthAll ‹List D›) d.depth; omega) ⟨.bl _, H, I, rfl, q⟩
    · cases hc
  · cases hc
def rCmpI (T : Tab) (K : PySem.W.Frag) (o : CmpOp) : R2 := fun x y H Q => ∃ ms w a b k, RelI T K ms H a x ∧ RelI T K ms H b y ∧ RelW K ms H w ∧ cmpV o w a b = some k ∧ Q (.bl k) H
theorem cmpI_ok {T : Tab} {X : Cx} {k : Nat} (hr : Room k X.A) (o : CmpOp) : OpR X (compareOp o) (rCmpI T X.K o) := by
  intro pins s σ H x y v u Q I rx ry h
  obtain ⟨ms, w, a, b, c, ra, rb, rw', hc, q⟩ := h
  unfold cmpV at hc
  cases ea : rd w a with
  | some d =>
    cases eb : rd w b with
    | some e =>
      rw [ea, eb] at hc
      exact cmp_ok hr o pins s σ H x y v u Q I rx ry ⟨d, e, c, rd_lv ra rw' ea, rd_lv rb rw' eb, hc, q⟩
    | none => rw [ea, eb] at hc; cases hc
  | none =>
    cases a with
    | d z => cases ea
    | exc _ _ => exact False.elim ra
    | ref n =>
      cases eb : rd w b with
      | none => rw [ea, eb] at hc; cases hc
      | some e =>
        rw [ea, eb] at hc
        cases e <;> first | cases hc | (dsimp only at hc; split at hc <;> first | cases hc | (rename_i z; cases z))
theorem ixN_L {n : Nat} {i : Int} : ixN n i = L2.ixN n i := rfl
theorem sub_ok {T : Tab} {X : Cx} : IxR X (rI2 T X.K fun u v w => match rd w u, rd w v with | some x, some y => ofO ((subD x y).map IV.d) w | _, _ => .no) := by
  intro value slice pins s σ H x y v u Q I rx ry h hs
  obtain ⟨ms, w, a, b, P, ra, rb, rw', h⟩ := h
  dsimp only at h
  cases ea : rd w a with
  | none => rw [ea] at h; cases rd w b <;> exact False.elim h
  | some d =>
  cases eb : rd w b with
  | none => rw [ea, eb] at h; exact False.elim h
  | some e =>
  rw [ea, eb] at h
  have la := rd_lv ra rw' ea
  have lb := rd_lv rb rw' eb
  dsimp only at h
  unfold subD at h
  split at h
  · cases lb.int
    obtain ⟨a1, xs, rfl, h1, f1⟩ := la.list
    rename_i ds i
    cases hj : ixN ds.length i with
    | none => rw [hj] at h; exact False.elim h
    | some j =>
    rw [hj, Option.bind_some] at h
    cases hd : ds[j]? with
    | none => rw [hd] at h; exact False.elim h
    | some z =>
    rw [hd] at h
    obtain ⟨q, hq, fq⟩ := f1.get hd
    refine ix_list value slice pins s σ H _ _ v u Q I rx ry ⟨a1, xs, i, q, rfl, rfl, .inl h1, ?_, endI h (show Fz _ _ _ _ from fq) rw'⟩ hs
    unfold atI
    rw [f1.length, ← ixN_L, hj, Option.bind_some, hq]
  · cases lb.int
    obtain ⟨a1, xs, rfl, h1, f1⟩ := la.tuple
    rename_i ds i
    cases hj : ixN ds.length i with
    | none => rw [hj] at h; exact False.elim h
    | some j =>
    rw [hj, Option.bind_some] at h
    cases hd : ds[j]? with
    | none => rw [hd] at h; exact False.elim h
    | some z =>
    rw [hd] at h
    obtain ⟨q, hq, fq⟩ := f1.get hd
    refine ix_tup value slice pins s σ H _ _ v u Q I rx ry ⟨a1, xs, i, q, rfl, rfl, h1, ?_, endI h (show Fz _ _ _ _ from fq) rw'⟩ hs
    unfold atI
    rw [f1.length, ← ixN_L, hj, Option.bind_some, hq]
  · exact False.elim h
theorem clip_L (n d : Nat) : ∀ o : Option Int, d ≤ n → clip n d o = HT.sIx n d o
  | none, _ => rfl
  | some i, hd => by
    show (if i < 0 then (if i + n < 0 then 0 else (i + n).toNat) else (if (n : Int) < i then n else i.toNat)) = (if i < 0 then (i + (n : Int)).toNat else min i.toNat n)
    by_cases h : i < 0
    · rw [if_pos h, if_pos h]
      split <;> omega
    · rw [if_neg h, if_neg h]
      split <;> omega
theorem cut_map {K : PySem.W.Frag} {H : Hp} {xs : List V} {ds : List D} (f : FzAll K H xs ds) (lo hi : Option Int) : FzAll K H (cutV xs lo hi) (cut ds lo hi) := by
  unfold cutV cut
  rw [clip_L _ _ _ (Nat.zero_le _), clip_L _ _ _ (Nat.le_refl _), f.length]
  exact (f.drop _).take _
def rSlI (T : Tab) (K : PySem.W.Frag) : V → Option Int → Option Int → Hp → VK → Prop := fun x lo hi H Q => ∃ ms w a d P, RelI T K ms H a x ∧ RelW K ms H w ∧ rd w a = some d ∧ endsR T K ms H P (RelF T K) Q (ofO ((slD d lo hi).map IV.d) w)
theorem sl_ok {T : Tab} {X : Cx} : SlR X (rSlI T X.K) := by
  intro pins s σ H x v vl vu lo hi sl Q I rx hs pl pu h
  obtain ⟨ms, w, a, d, P, ra, rw', ea, h⟩ := h
  have la := rd_lv ra rw' ea
  unfold slD at h
  split at h
  · obtain ⟨a1, xs, rfl, h1, f1⟩ := la.list
    exact sl_list pins s σ H _ v vl vu lo hi sl Q I rx hs pl pu ⟨a1, xs, rfl, .inl h1, fun p hp => end_lst h rw' (cut_map f1 _ _) hp⟩
  · obtain ⟨a1, xs, rfl, h1, f1⟩ := la.tuple
    rename_i ds
    refine sl_tupA pins s σ H _ v vl vu lo hi sl Q I rx hs pl pu ⟨a1, xs, rfl, h1, fun e => ?_, fun _ p hp => endF_tup h rw' (cut_map f1 _ _) hp⟩
    have e2 : cut ds lo hi = ds := by
      unfold cut
      rw [clip_L _ _ _ (Nat.zero_le _), clip_L _ _ _ (Nat.le_refl _), ← f1.length, e.1, e.2, f1.length]
      simp
    rw [e2] at h
    exact endI h (relF_I (fun _ z => by cases z) (.tup h1 f1)) rw'
  · exact False.elim h
def bltV (f : B) (us : List IV) (w : W) : R IV := match rdAll w us with
  | some xs => ofO ((bltD f xs).map IV.d) w
  | none => .no
theorem rdAll_lv {T : Tab} {K : PySem.W.Frag} {ms : List Addr} {H : Hp} {w : W} (rw' : RelW K ms H w) : ∀ {us : List IV} {xs : List V} {ds : List D}, RelA T K ms H us xs → rdAll w us = some ds → Paired (Lv K H) xs ds
  | [], _, _, .nil, e => by cases e; exact .nil
  | u :: us, _, ds, .cons r rr, e => by
    unfold rdAll at e
    cases h1 : rd w u with
    | none => rw [h1] at e; cases e
    | some d =>
    rw [h1, Option.bind_some] at e
    cases h2 : rdAll w us with
    | none => rw [h2] at e; cases e
    | some es =>
    rw [h2] at e
    cases e
    exact .cons (rd_lv r rw' h1) (rdAll_lv rw' rr h2)
def cal : B → Value
  | .len => .builtin "len"
  | .int => .type "int"
  | .abs => .builtin "abs"
  | .max => .builtin "max"
  | .min => .builtin "min"
  | .sum => .builtin "sum"
  | .all => .builtin "all"
  | .any => .builtin "any"
  | .tuple => .type "tuple"
  | .list => .type "list"
  | .gcd => .builtin "math.gcd"
  | .lcm => .builtin "math.lcm"
  | .isqrt => .builtin "math.isqrt"
  | .sorted => .builtin "sorted"
  | .str => .type "str"
  | .bool => .type "bool"
def rFA (T : Tab) (K : PySem.W.Frag) (g : List IV → W → R IV) : List V → Hp → VK → Prop := fun xs H Q => ∃ ms w us P, RelA T K ms H us xs ∧ RelW K ms H w ∧ endsR T K ms H P (RelF T K) Q (g us w)
theorem ints_fz {K : PySem.W.Frag} {H : Hp} : ∀ {xs : List V} {ds : List D} {ns : List Int}, FzAll K H xs ds → ints? ds = some ns → xs = ns.map V.int
  | _, _, _, .nil, e => by cases e; rfl
  | _, _, ns, .cons h r, e => by
    cases h <;> first
      | (cases e; done)
      | (rename_i i
         unfold ints? at e
         cases e2 : ints? _ with
         | none => rw [e2] at e; cases e
         | some ms => rw [e2] at e; cases e; rw [ints_fz r e2]; rfl)
theorem bools_fz {K : PySem.W.Frag} {H : Hp} : ∀ {xs : List V} {ds : List D} {ns : List Bool}, FzAll K H xs ds → bools? ds = some ns → xs = ns.map V.bl
  | _, _, _, .nil, e => by cases e; rfl
  | _, _, ns, .cons h r, e => by
    cases h <;> first
      | (cases e; done)
      | (rename_i i
         unfold bools? at e
         cases e2 : bools? _ with
         | none => rw [e2] at e; cases e
         | some ms => rw [e2] at e; cases e; rw [bools_fz r e2]; rfl)
theorem maxL_is : ∀ {ns : List Int} {m : Int}, maxL ns = some m → m ∈ ns ∧ ∀ y ∈ ns, y ≤ m
  | [], _, e => by cases e
  | [i], _, e => by cases e; simp
  | i :: j :: r, m, e => by
    simp only [maxL] at e
    cases e2 : maxL (j :: r) with
    | none => rw [e2] at e; cases e
    | some k =>
    rw [e2] at e
    have e' : (if k < i then i else k) = m := Option.some.inj e
    subst e'
    obtain ⟨h1, h2⟩ := maxL_is e2
    by_cases c : k < i
    · rw [if_pos c]
      exact ⟨List.mem_cons_self, fun y hy => (List.mem_cons.mp hy).elim (fun z => by omega) fun z => by have := h2 y z; omega⟩
    · rw [if_neg c]
      exact ⟨List.mem_cons_of_mem _ h1, fun y hy => (List.mem_cons.mp hy).elim (fun z => by omega) fun z => h2 y z⟩
theorem minL_is : ∀ {ns : List Int} {m : Int}, minL ns = some m → m ∈ ns ∧ ∀ y ∈ ns, m ≤ y
  | [], _, e => by cases e
  | [i], _, e => by cases e; simp
  | i :: j :: r, m, e => by
    simp only [minL] at e
    cases e2 : minL (j :: r) with
    | none => rw [e2] at e; cases e
    | some k =>
    rw [e2] at e
    have e' : (if i < k then i else k) = m := Option.some.inj e
    subst e'
    obtain ⟨h1, h2⟩ := minL_is e2
    by_cases c : i < k
    · rw [if_pos c]
      exact ⟨List.mem_cons_self, fun y hy => (List.mem_cons.mp hy).elim (fun z => by omega) fun z => by have := h2 y z; omega⟩
    · rw [if_neg c]
      exact ⟨List.mem_cons_of_mem _ h1, fun y hy => (List.mem_cons.mp hy).elim (fun z => by omega) fun z => h2 y z⟩
theorem lcm_log {a b : Nat} (ha : a.log2 < 9000) (hb : b.log2 < 9000) : ((((Nat.lcm 1 a).lcm b : Nat) : Int)).natAbs.log2 < bitsLine := by
  have e : bitsLine = 134217728 := by decide
  rw [e, Nat.lcm_one_left, Int.natAbs_natCast]
  have h1 : a < 2 ^ 9000 := by
    by_cases z : a = 0
    · subst z; exact Nat.two_pow_pos _
    · exact (Nat.log2_lt z).mp ha
  have h2 : b < 2 ^ 9000 := by
    by_cases z : b = 0
    · subst z; exact Nat.two_pow_pos _
    · exact (Nat.log2_lt z).mp hb
  by_cases z : a.lcm b = 0
  · rw [z]; decide
  · refine Nat.lt_of_lt_of_le (show (a.lcm b).log2 < 18000 from (Nat.log2_lt z).mpr ?_) (by decide)
    have a0 : 0 < a := Nat.pos_of_ne_zero fun q => z (by rw [q, Nat.lcm_zero_left])
    have b0 : 0 < b := Nat.pos_of_ne_zero fun q => z (by rw [q, Nat.lcm_zero_right])
    refine Nat.lt_of_le_of_lt (Nat.le_of_dvd (Nat.mul_pos a0 b0) (Nat.lcm_dvd (Nat.dvd_mul_right a b) (Nat.dvd_mul_left b a))) ?_
    rw [show (18000 : Nat) = 9000 + 9000 from rfl, Nat.pow_add]
    exact Nat.mul_lt_mul'' h1 h2
theorem log2_max {a b k : Nat} (ha : a.log2 < k) (hb : b.log2 < k) : (max a b).log2 < k := by
  rcases Nat.le_total a b with h | h
  · rw [Nat.max_eq_right h]; exact hb
  · rw [Nat.max_eq_left h]; exact ha
theorem pd1 {α β : Type} {R : α → β → Prop} {xs : List α} {y : β} (h : Paired R xs [y]) : ∃ x, xs = [x] ∧ R x y := by
  cases h with
  | cons a b => cases b; exact ⟨_, rfl, a⟩
theorem pd2 {α β : Type} {R : α → β → Prop} {xs : List α} {y z : β} (h : Paired R xs [y, z]) : ∃ x x', xs = [x, x'] ∧ R x y ∧ R x' z := by
  cases h with
  | cons a b => cases b with
    | cons c d => cases d; exact ⟨_, _, rfl, a, c⟩
theorem blt_ok {T : Tab} {X : Cx} (hcalm : X.calm = true) (f : B) : CallR X (cal f) (rFA T X.K (bltV f)) := by
  intro pins s σ H xs us Q I rs h
  obtain ⟨ms, w, as, P, ra, rw', h⟩ := h
  unfold bltV at h
  cases ea : rdAll w as with
  | none => rw [ea] at h; exact False.elim h
  | some ds =>
  rw [ea] at h
  have la := rdAll_lv rw' ra ea
  dsimp only at h
  clear ea ra
  unfold bltD at h
  split at h
  · obtain ⟨x1, rfl, l1⟩ := pd1 la
    obtain ⟨a1, ys, rfl, h1, f1⟩ := l1.list
    refine call_len_seq pins s σ H _ us Q I rs ⟨a1, ys, rfl, .inl (.inl h1), ?_⟩
    rw [f1.length]
    exact endI h (relF_I (fun _ z => by cases z) (.int _)) rw'
  · obtain ⟨x1, rfl, l1⟩ := pd1 la
    obtain ⟨a1, ys, rfl, h1, f1⟩ := l1.tuple
    refine call_len_seq pins s σ H _ us Q I rs ⟨a1, ys, rfl, .inr h1, ?_⟩
    rw [f1.length]
    exact endI h (relF_I (fun _ z => by cases z) (.int _)) rw'
  · obtain ⟨x1, rfl, l1⟩ := pd1 la
    cases l1.str
    split at h
    · rename_i hz
      exact call_len_str pins s σ H _ us Q I rs ⟨_, rfl, sz_of hz, endI h (relF_I (fun _ z => by cases z) (.int _)) rw'⟩
    · exact False.elim h
  · obtain ⟨x1, rfl, l1⟩ := pd1 la
    cases l1.int
    exact call_int1 pins s σ H _ us Q I rs (.inl ⟨_, rfl, endI h (relF_I (fun _ z => by cases z) (.int _)) rw'⟩)
  · obtain ⟨x1, rfl, l1⟩ := pd1 la
    cases l1.bl
    exact call_int1 pins s σ H _ us Q I rs (.inr ⟨_, rfl, endI h (relF_I (fun _ z => by cases z) (.int _)) rw'⟩)
  · obtain ⟨x1, rfl, l1⟩ := pd1 la
    cases l1.int
    exact call_abs pins s σ H _ us Q I rs ⟨_, rfl, endI h (relF_I (fun _ z => by cases z) (.int _)) rw'⟩
  · obtain ⟨x1, x2, rfl, l1, l2⟩ := pd2 la
    cases l1.int; cases l2.int
    exact call_max2 hcalm pins s σ H _ us Q I rs ⟨_, _, rfl, endI h (relF_I (fun _ z => by cases z) (.int _)) rw'⟩
  · obtain ⟨x1, x2, rfl, l1, l2⟩ := pd2 la
    cases l1.int; cases l2.int
    exact call_min2 hcalm pins s σ H _ us Q I rs ⟨_, _, rfl, endI h (relF_I (fun _ z => by cases z) (.int _)) rw'⟩
  · obtain ⟨x1, rfl, l1⟩ := pd1 la
    obtain ⟨a1, ys, rfl, h1, f1⟩ := l1.list
    cases e2 : ints? ‹List D› with
    | none => rw [e2] at h; exact False.elim h
    | some ns =>
    rw [e2, Option.bind_some] at h
    cases e3 : maxL ns with
    | none => rw [e3] at h; exact False.elim h
    | some m =>
    rw [e3] at h
    have ey := ints_fz f1 e2
    subst ey
    obtain ⟨i1, i2⟩ := maxL_is e3
    refine cr_max hcalm pins s σ H _ us Q I rs ⟨a1, ns, rfl, .inl h1, List.length_pos_of_mem i1, fun m' hm hall => ?_⟩
    have : m' = m := by have := i2 m' hm; have := hall m i1; omega
    rw [this]
    exact endI h (relF_I (fun _ z => by cases z) (.int _)) rw'
  · obtain ⟨x1, rfl, l1⟩ := pd1 la
    obtain ⟨a1, ys, rfl, h1, f1⟩ := l1.list
    cases e2 : ints? ‹List D› with
    | none => rw [e2] at h; exact False.elim h
    | some ns =>
    rw [e2, Option.bind_some] at h
    cases e3 : minL ns with
    | none => rw [e3] at h; exact False.elim h
    | some m =>
    rw [e3] at h
    have ey := ints_fz f1 e2
    subst ey
    obtain ⟨i1, i2⟩ := minL_is e3
    refine cr_min hcalm pins s σ H _ us Q I rs ⟨a1, ns, rfl, .inl h1, List.length_pos_of_mem i1, fun m' hm hall => ?_⟩
    have : m' = m := by have := i2 m' hm; have := hall m i1; omega
    rw [this]
    exact endI h (relF_I (fun _ z => by cases z) (.int _)) rw'
  · obtain ⟨x1, rfl, l1⟩ := pd1 la
    obtain ⟨a1, ys, rfl, h1, f1⟩ := l1.list
    cases e2 : ints? ‹List D› with
    | none => rw [e2] at h; exact False.elim h
    | some ns =>
    rw [e2] at h
    have ey := ints_fz f1 e2
    subst ey
    exact cr_sum hcalm pins s σ H _ us Q I rs ⟨a1, ns, rfl, .inl h1, endI h (relF_I (fun _ z => by cases z) (.int _)) rw'⟩
  · obtain ⟨x1, rfl, l1⟩ := pd1 la
    obtain ⟨a1, ys, rfl, h1, f1⟩ := l1.list
    cases e2 : bools? ‹List D› with
    | none => rw [e2] at h; exact False.elim h
    | some ns =>
    rw [e2] at h
    have ey := bools_fz f1 e2
    subst ey
    exact cr_all hcalm pins s σ H _ us Q I rs ⟨a1, ns, rfl, .inl h1, endI h (relF_I (fun _ z => by cases z) (.bl _)) rw'⟩
  · obtain ⟨x1, rfl, l1⟩ := pd1 la
    obtain ⟨a1, ys, rfl, h1, f1⟩ := l1.list
    cases e2 : bools? ‹List D› with
    | none => rw [e2] at h; exact False.elim h
    | some ns =>
    rw [e2] at h
    have ey := bools_fz f1 e2
    subst ey
    exact cr_any hcalm pins s σ H _ us Q I rs ⟨a1, ns, rfl, .inl h1, endI h (relF_I (fun _ z => by cases z) (.bl _)) rw'⟩
  · obtain ⟨x1, rfl, l1⟩ := pd1 la
    obtain ⟨a1, ys, rfl, h1, f1⟩ := l1.list
    exact call_tuple_of pins s σ H _ us Q I rs ⟨a1, ys, rfl, .inl ⟨.inl h1, fun p hp => endF_tup h rw' f1 hp⟩⟩
  · obtain ⟨x1, rfl, l1⟩ := pd1 la
    obtain ⟨a1, ys, rfl, h1, f1⟩ := l1.tuple
    exact call_tuple_of pins s σ H _ us Q I rs ⟨a1, ys, rfl, .inr ⟨h1, endI h (relF_I (fun _ z => by cases z) (.tup h1 f1)) rw'⟩⟩
  · obtain ⟨x1, rfl, l1⟩ := pd1 la
    obtain ⟨a1, ys, rfl, h1, f1⟩ := l1.list
    exact call_list_of pins s σ H _ us Q I rs ⟨a1, ys, rfl, .inl (.inl h1), fun p hp => end_lst h rw' f1 hp⟩
  · obtain ⟨x1, rfl, l1⟩ := pd1 la
    obtain ⟨a1, ys, rfl, h1, f1⟩ := l1.tuple
    exact call_list_of pins s σ H _ us Q I rs ⟨a1, ys, rfl, .inr h1, fun p hp => end_lst h rw' f1 hp⟩
  · obtain ⟨x1, x2, rfl, l1, l2⟩ := pd2 la
    cases l1.int; cases l2.int
    exact cr_gcd pins s σ H _ us Q I rs ⟨_, _, rfl, endI h (relF_I (fun _ z => by cases z) (.int _)) rw'⟩
  · obtain ⟨x1, x2, rfl, l1, l2⟩ := pd2 la
    cases l1.int; cases l2.int
    split at h
    · rename_i hz
      rw [Bool.and_eq_true, decide_eq_true_eq, decide_eq_true_eq] at hz
      obtain ⟨t, u, rfl⟩ := Vals.int2 rs
      have o1 : (1 : Nat).log2 < 9000 := by decide
      refine call_function_meets PySem.W.MGF.kind_lcm PySem.W.MGF.plain_lcm PySem.W.MGF.entry_lcm (PySem.W.MGF.args_lcm _ _) (PySem.W.mg_run_lcm _ t _ u (by have := log2_max o1 hz.1; omega) (by have := log2_max hz.1 hz.2; omega) (lcm_log hz.1 hz.2)).meets ?_
      rw [Nat.lcm_one_left]
      exact ⟨.int _, H, I.tok _, ⟨_, rfl⟩, endI h (relF_I (fun _ z => by cases z) (.int _)) rw'⟩
    · exact False.elim h
  · obtain ⟨x1, rfl, l1⟩ := pd1 la
    cases l1.int
    split at h
    · rename_i hz
      rw [Bool.and_eq_true, decide_eq_true_eq, decide_eq_true_eq] at hz
      obtain ⟨u, rfl, rx⟩ := vals1 rs
      obtain ⟨t, rfl⟩ := rx
      rename_i i
      have e : i.toNat.log2 < 9000 := by rw [show i.toNat = i.natAbs by omega]; exact hz.2
      refine call_function_meets PySem.W.MGF.kind_isqrt PySem.W.MGF.plain_isqrt PySem.W.MGF.entry_isqrt (PySem.W.MGF.args_isqrt _) (PySem.W.mg_run_isqrt _ t (by omega) (by omega) (by omega)).meets ?_
      exact ⟨.int _, H, I.tok _, ⟨_, rfl⟩, endI h (relF_I (fun _ z => by cases z) (.int _)) rw'⟩
    · exact False.elim h
  · obtain ⟨x1, rfl, l1⟩ := pd1 la
    cases l1.int
    split at h
    · rename_i hz
      rw [decide_eq_true_eq] at hz
      exact call_str_int pins s σ H _ us Q I rs ⟨_, rfl, hz, endI h (relF_I (fun _ z => by cases z) (.str _)) rw'⟩
    · exact False.elim h
  · exact False.elim h
end Pv
namespace Pv
open PySem PySem.Spec PyProof.Rows HT L2
section
variable {prog : Program} {w : World} {A : Around} {E : Value → Shared → Prop} {s : Shared}
theorem applied_k {sl : Addr} {vl vu vs : Value} {lo hi : Option Int} {k : Int} {n : Nat} {Q : Int × Int × Nat → Shared → Prop} (hs : s.heap.IsSliceOf sl vl vu vs) (pl : IsPart vl lo) (pu : IsPart vu hi) (ps : IsPart vs (some k)) (k0 : k ≠ 0)
    (h : Q ((Builtin.Slice.sliceAdjust lo hi k (n : Int)).1, k, Builtin.Slice.slicePlaces (Builtin.Slice.sliceAdjust lo hi k (n : Int)).1 (Builtin.Slice.sliceAdjust lo hi k (n : Int)).2 k) s) : wpAny (model prog w) A (Builtin.Slice.sliceApplied (.ref sl) (pure (n : Int))) Q E s := by
  obtain ⟨os, hos, hcs, hds⟩ := id hs
  unfold Builtin.Slice.sliceApplied Builtin.Slice.sliceFields
  refine wpAny_bind (wpAny_bind (wpAny_field hos hds (x := vl) rfl (wpAny_bind (wpAny_field hos hds (x := vu) rfl (wpAny_bind (wpAny_field hos hds (x := vs) rfl (wpAny_pure ?_)))))))
  refine wpAny_bind (slicePart_ ps ?_)
  show wpAny _ _ (if (k == 0) = true then _ else _) _ _ s
  rw [if_neg (by simpa using k0)]
  refine wpAny_bind (slicePart_ pl (wpAny_bind (slicePart_ pu (wpAny_bind (wpAny_pure ?_)))))
  exact wpAny_pure h
theorem places_le {lo hi : Option Int} {k : Int} {n : Nat} (k0 : k ≠ 0) : Builtin.Slice.slicePlaces (Builtin.Slice.sliceAdjust lo hi k (n : Int)).1 (Builtin.Slice.sliceAdjust lo hi k (n : Int)).2 k ≤ n := by
  have key : ∀ d m : Int, 1 ≤ m → 1 ≤ d → (d - 1) / m + 1 ≤ d := fun d m hm hd => by
    have h1 : (d - 1) / m ≤ d - 1 := Int.ediv_le_self _ (by omega)
    omega
  have lo1 : 0 < k → 0 ≤ (Builtin.Slice.sliceAdjust lo hi k (n : Int)).1 ∧ (Builtin.Slice.sliceAdjust lo hi k (n : Int)).2 ≤ n := fun h => by
    unfold Builtin.Slice.sliceAdjust
    simp only [show ¬ k < 0 by omega, if_false]
    constructor
    · cases lo with
      | none => simp
      | some i => dsimp only; split <;> omega
    · cases hi with
      | none => simp
      | some i => dsimp only; split <;> omega
  have lo2 : k < 0 → (Builtin.Slice.sliceAdjust lo hi k (n : Int)).1 ≤ (n : Int) - 1 ∧ -1 ≤ (Builtin.Slice.sliceAdjust lo hi k (n : Int)).2 := fun h => by
    unfold Builtin.Slice.sliceAdjust
    simp only [h, if_true]
    constructor
    · cases lo with
      | none => simp
      | some i => dsimp only; split <;> omega
    · cases hi with
      | none => simp
      | some i => dsimp only; split <;> omega
  generalize (Builtin.Slice.sliceAdjust lo hi k (n : Int)).1 = a at *
  generalize (Builtin.Slice.sliceAdjust lo hi k (n : Int)).2 = b at *
  unfold Builtin.Slice.slicePlaces
  by_cases h : k > 0
  · obtain ⟨h1, h2⟩ := lo1 h
    rw [if_pos h]
    split
    · have := key (b - a) k (by omega) (by omega)
      omega
    · simp
  · obtain ⟨h1, h2⟩ := lo2 (by omega)
    rw [if_neg h]
    split
    · have := key (a - b) (-k) (by omega) (by omega)
      omega
    · simp
theorem getItem_tuple_k {t sl : Addr} {items : Array Value} {vl vu vs : Value} {lo hi : Option Int} {k : Int} {Q : Value → Shared → Prop} (ht : IsTup s.heap t items) (hs : s.heap.IsSliceOf sl vl vu vs) (pl : IsPart vl lo) (pu : IsPart vu hi) (ps : IsPart vs (some k)) (k0 : k ≠ 0) (k1 : k ≠ 1)
    (h : Q (.ref s.heap.objs.size) { s with heap := s.heap.push { cls := .type "tuple", data := .seq (cutK items.toList lo hi k).toArray } })
    (hsz : items.size ≤ sizeLine) : wpAny (model prog w) A (getItem (.ref t) (.ref sl)) Q E s := by
  have hl : (cutK items.toList lo hi k).length ≤ items.size := by
    unfold cutK
    refine Nat.le_trans (List.length_filterMap_le _ _) ?_
    rw [List.length_range]
    have := places_le (lo := lo) (hi := hi) (n := items.toList.length) k0
    rwa [Array.length_toList] at this ⊢
  have htake : sizeOk (.seq (cutK items.toList lo hi k).toArray) := by
    show (cutK items.toList lo hi k).toArray.size ≤ sizeLine
    rw [List.size_toArray]
    omega
  obtain ⟨os, hos, hcs, hds⟩ := id hs
  have hTs : s.TypeIs (.ref sl) "slice" := ⟨os, hos, hcs⟩
  unfold getItem
  try with_reducible refine wpAny_holding ?_
  first | refine wpAny_bind (wpAny_pure ?_) | skip
  refine wpAny_bind (wpAny_sequenceKey ht.typeIs (by decide) ?_)
  refine wpAny_bind (wpAny_callSpecial?_slot (name := Str.ofString "__getitem__") ht.typeIs PyProof.Rows.slot_tuple_getitem
    (wpAny_call_entry PyProof.Rows.slot_tuple_getitem ht.typeIs entry_tuple_getitem ?_ (args_tuple_getitem _ _)))
  show wpAny _ _ (Builtin.Tuple.tupleItemsOf (.ref t) >>= _) _ _ s
  refine wpAny_bind (tupleItemsOf_ ht ?_)
  refine wpAny_bind (wpAny_typeOf hTs ?_)
  rw [if_pos (by decide)]
  refine wpAny_bind (applied_k hs pl pu ps k0 ?_)
  have hno : ¬ (((Builtin.Slice.sliceAdjust lo hi k (items.size : Int)).1 == 0 && k == 1 && Builtin.Slice.slicePlaces (Builtin.Slice.sliceAdjust lo hi k (items.size : Int)).1 (Builtin.Slice.sliceAdjust lo hi k (items.size : Int)).2 k == items.size) = true) := by
    intro q
    rw [Bool.and_eq_true, Bool.and_eq_true] at q
    exact k1 (eq_of_beq q.1.2)
  show wpAny _ _ (if ((Builtin.Slice.sliceAdjust lo hi k (items.size : Int)).1 == 0 && k == 1 && Builtin.Slice.slicePlaces (Builtin.Slice.sliceAdjust lo hi k (items.size : Int)).1 (Builtin.Slice.sliceAdjust lo hi k (items.size : Int)).2 k == items.size) = true then _ else _) _ _ s
  rw [if_neg hno]
  have e : (List.filterMap (fun (j : Nat) => items[((Builtin.Slice.sliceAdjust lo hi k (items.size : Int)).1 + (j : Int) * k).toNat]?) (List.range (Builtin.Slice.slicePlaces (Builtin.Slice.sliceAdjust lo hi k (items.size : Int)).1 (Builtin.Slice.sliceAdjust lo hi k (items.size : Int)).2 k))).toArray = (cutK items.toList lo hi k).toArray := by
    unfold cutK
    rw [Array.length_toList]
    congr 1
    congr 1
    funext j
    exact (Array.getElem?_toList ..).symm
  dsimp only
  rw [e]
  first
    | exact wpAny_bind (m := Builtin.Tuple.tupleExact _) (wpAny_newObj_type (wpAny_pure ⟨_, rfl, wpAny_pure h⟩) htake)
    | exact wpAny_bind (m := Builtin.Tuple.tupleExact _) (wpAny_newObj_type (wpAny_bind (wpAny_pure (wpAny_pure ⟨_, rfl, wpAny_pure h⟩))) htake)
    | exact wpAny_bind (wpAny_bind (m := Builtin.Tuple.tupleExact _) (wpAny_newObj_type (wpAny_pure (wpAny_pure ⟨_, rfl, wpAny_pure h⟩)) htake))
    | exact wpAny_bind (wpAny_bind (m := Builtin.Tuple.tupleExact _) (wpAny_newObj_type (wpAny_pure ⟨_, rfl, wpAny_pure h⟩) htake))
end
theorem pick_k (its : List Value) (lo hi : Option Int) {k : Int} (k0 : k ≠ 0) : slicePick its.toArray lo hi (some k) = (cutK its lo hi k).toArray := by
  unfold slicePick cutK
  rw [List.size_toArray]
  have e1 : (sliceBounds lo hi (some k) its.length).1 = (Builtin.Slice.sliceAdjust lo hi k (its.length : Int)).1 := by
    unfold sliceBounds Builtin.Slice.sliceAdjust
    by_cases h : k < 0
    · simp only [Option.getD_some, show ¬ k > 0 by omega, h, if_true, if_false]
      cases lo with
      | none => rfl
      | some i => dsimp only; split <;> omega
    · simp only [Option.getD_some, show k > 0 by omega, h, if_true, if_false]
      cases lo with
      | none => rfl
      | some i => dsimp only; split <;> omega
  have e2 : (sliceBounds lo hi (some k) its.length).2.1 = (Builtin.Slice.sliceAdjust lo hi k (its.length : Int)).2 := by
    unfold sliceBounds Builtin.Slice.sliceAdjust
    by_cases h : k < 0
    · simp only [Option.getD_some, show ¬ k > 0 by omega, h, if_true, if_false]
      cases hi with
      | none => rfl
      | some i => dsimp only; split <;> omega
    · simp only [Option.getD_some, show k > 0 by omega, h, if_true, if_false]
      cases hi with
      | none => rfl
      | some i => dsimp only; split <;> omega
  have e3 : (sliceBounds lo hi (some k) its.length).2.2 = k := rfl
  rw [e1, e2, e3]
  generalize (Builtin.Slice.sliceAdjust lo hi k (its.length : Int)).1 = a
  generalize (Builtin.Slice.sliceAdjust lo hi k (its.length : Int)).2 = b
  have e4 : sliceRange a b k = (List.range (Builtin.Slice.slicePlaces a b k)).map fun (j : Nat) => (a + k * (j : Int)).toNat := by
    unfold sliceRange Builtin.Slice.slicePlaces
    by_cases h : k > 0
    · simp only [h, if_true]
      by_cases h2 : a < b
      · simp only [h2, if_true]
        have : (b - a + k - 1) / k = (b - a - 1) / k + 1 := by
          rw [show b - a + k - 1 = (b - a - 1) + 1 * k by omega, Int.add_mul_ediv_right _ _ (by omega)]
        rw [this]
      · simp only [h2, if_false]
    · simp only [h, if_false]
      by_cases h2 : a > b
      · simp only [h2, if_true]
        have : (a - b - k - 1) / (-k) = (a - b - 1) / (-k) + 1 := by
          rw [show a - b - k - 1 = (a - b - 1) + 1 * (-k) by omega, Int.add_mul_ediv_right _ _ (by omega)]
        rw [this]
      · simp only [h2, if_false]
  rw [e4, List.filterMap_map]
  congr 1
  congr 1
  funext j
  show its.toArray[(a + k * (j : Int)).toNat]? = its[(a + (j : Int) * k).toNat]?
  rw [Int.mul_comm k]
  exact List.getElem?_toArray ..
theorem fm_rel {α β : Type} {R : α → β → Prop} {L : List α → List β → Prop} (nil : L [] []) (cons : ∀ a b as bs, R a b → L as bs → L (a :: as) (b :: bs)) {xs : List α} {ys : List β} (hl : xs.length = ys.length) (h : ∀ (j : Nat) (b : β), ys[j]? = some b → ∃ a, xs[j]? = some a ∧ R a b) (g : Nat → Nat) :
    ∀ js : List Nat, L (js.filterMap fun j => xs[g j]?) (js.filterMap fun j => ys[g j]?)
  | [] => nil
  | j :: js => by
    have ih := fm_rel nil cons hl h g js
    cases e : ys[g j]? with
    | none =>
      have e2 : xs[g j]? = none := by
        rw [List.getElem?_eq_none_iff] at e ⊢
        omega
      rw [List.filterMap_cons_none (f := fun j => ys[g j]?) e, List.filterMap_cons_none (f := fun j => xs[g j]?) e2]
      exact ih
    | some b =>
      obtain ⟨a, ha, r⟩ := h _ _ e
      rw [List.filterMap_cons_some (f := fun j => ys[g j]?) e, List.filterMap_cons_some (f := fun j => xs[g j]?) ha]
      exact cons _ _ _ _ r ih
theorem cutK_vals {xs : List V} {us : List Value} (r : Vals xs us) (lo hi : Option Int) (k : Int) : Vals (cutK xs lo hi k) (cutK us lo hi k) := by
  unfold cutK
  rw [r.length]
  refine fm_rel (R := RelV) .nil (fun _ _ _ _ h1 h2 => .cons h1 h2) r.length (fun j b e => ?_) _ _
  have hj : j < xs.length := by rw [r.length]; exact (List.getElem?_eq_some_iff.mp e).1
  obtain ⟨u, h1, h2⟩ := r.get (List.getElem?_eq_getElem hj)
  rw [h1] at e
  cases e
  exact ⟨_, List.getElem?_eq_getElem hj, h2⟩
theorem cutK_fz {K : PySem.W.Frag} {H : Hp} {xs : List V} {ds : List D} (f : FzAll K H xs ds) (lo hi : Option Int) (k : Int) : FzAll K H (cutK xs lo hi k) (cutK ds lo hi k) := by
  unfold cutK
  rw [f.length]
  exact fm_rel (R := Fz K H) .nil (fun _ _ _ _ h1 h2 => .cons h1 h2) f.length (fun j b e => f.get e) _ _
theorem cutK_len {xs : List V} {lo hi : Option Int} {k : Int} (k0 : k ≠ 0) : (cutK xs lo hi k).length ≤ xs.length := by
  unfold cutK
  refine Nat.le_trans (List.length_filterMap_le _ _) ?_
  rw [List.length_range]
  exact places_le k0
def SlRK (X : Cx) (r : V → Option Int → Option Int → Option Int → Hp → VK → Prop) : Prop :=
  ∀ (pins : List (Addr × Obj)) (s : Shared) (σ : L2.St) (H : Hp) (x : V) (v vl vu vs : Value) (lo hi st : Option Int) (sl : Addr) (Q : VK), L2.Inv X pins σ H s → RelV x v → s.heap.IsSliceOf sl vl vu vs → IsPart vl lo → IsPart vu hi → IsPart vs st → r x lo hi st H Q →
    ∃ T id, typeLookup (.type T) "__getitem__" = pure (some (.builtin id)) ∧ s.TypeIs v T ∧ wpAny (model X.prog X.w) X.A (getItem v (.ref sl)) (EP X pins σ Q) X.xe s
def tSlK (r : V → Option Int → Option Int → Option Int → Hp → VK → Prop) (te : TE) (tl th ts : TO) : TE := fun σ H Q => te σ H fun x H1 => tl σ H1 fun l H2 => th σ H2 fun u H3 => ts σ H3 fun k H4 => r x l u k H4 Q
theorem pe_sliceK {X : Cx} {e : Expr} {te : TE} {lo hi st : Option Expr} {tl th ts : TO} {pos p2 : Pos} {r : V → Option Int → Option Int → Option Int → Hp → VK → Prop} (hr : SlRK X r) (he : PE X e te) (hl : PO X lo tl) (hu : PO X hi th) (hst : PO X st ts) : PE X (.Subscript e (.Slice lo hi st p2) pos) (tSlK r te tl th ts) := by
  refine ⟨fun pins s σ H Q I h => ?_⟩
  refine Subscript_ (thn (he.run pins s σ H _ I h) fun v s1 ⟨x, H1, I1, r1, q1⟩ => ?_)
  refine wpAny_Slice (thn (hl.run pins s1 σ H1 _ I1 q1) fun vl s2 ⟨l, H2, I2, pl, q2⟩ => thn (hu.run pins s2 σ H2 _ I2 q2) fun vu s3 ⟨u, H3, I3, pu, q3⟩ => thn (hst.run pins s3 σ H3 _ I3 q3) fun vs s4 ⟨o, H4, I4, ps, q4⟩ => ?_)
  have I5 : L2.Inv X pins σ H4 { s4 with heap := s4.heap.push { cls := .type "slice", data := .fields #[vl, vu, vs] } } := I4.kept (t' := s4.toks) fun b ob q => Heap.get?_push_of_some _ q
  obtain ⟨T, id, hT, ht, hg⟩ := hr pins { s4 with heap := s4.heap.push { cls := .type "slice", data := .fields #[vl, vu, vs] } } σ H4 x v vl vu vs l u o s4.heap.objs.size Q I5 r1 (Heap.IsSliceOf.new ..) pl pu ps q4
  show wpAny (model X.prog X.w) X.A (subscriptTail e (.Slice lo hi st p2) v (.ref s4.heap.objs.size)) (EP X pins σ Q) X.xe { s4 with heap := s4.heap.push { cls := .type "slice", data := .fields #[vl, vu, vs] } }
  cases st with
  | none => exact tail_any (ops := [.ref s4.heap.objs.size, v]) ht hT hg (by with_unfolding_all rfl)
  | some z => exact tail_any (ops := [v, .ref s4.heap.objs.size]) ht hT hg (by with_unfolding_all rfl)
def rSlKI (T : Tab) (K : PySem.W.Frag) : V → Option Int → Option Int → Option Int → Hp → VK → Prop := fun x lo hi st H Q => ∃ ms w a d P, RelI T K ms H a x ∧ RelW K ms H w ∧ rd w a = some d ∧ endsR T K ms H P (RelF T K) Q (ofO ((slkD d lo hi st).map IV.d) w)
theorem slk_ok {T : Tab} {X : Cx} : SlRK X (rSlKI T X.K) := by
  intro pins s σ H x v vl vu vs lo hi st sl Q I rx hs pl pu ps h
  obtain ⟨ms, w, a, d, P, ra, rw', ea, h⟩ := h
  have la := rd_lv ra rw' ea
  unfold slkD at h
  split at h
  · rename_i ds k
    split at h
    · rename_i k0
      have k0 : k ≠ 0 := by simpa using k0
      obtain ⟨a1, xs, rfl, h1, f1⟩ := la.list
      cases rx
      obtain ⟨its, r, ht, hz⟩ := I.list (.inl h1)
      have hlen := r.length
      refine ⟨"list", _, slot_list_getitem.lookup, ht.isList.typeIs, ?_⟩
      refine wpAny_getItem_list_slice ht.isList hs pl pu ps (by simpa using k0) ?_ (by rw [List.size_toArray] <;> omega)
      rw [pick_k its lo hi k0]
      refine ⟨.ref s.heap.objs.size, _, I.laid (t' := s.toks) (o := .lst (cutK xs lo hi k)) (fun b ob q => Heap.get?_push_of_some _ q) (Nat.le_refl _) ?_, rfl, end_lst h rw' (cutK_fz f1 lo hi k) (I.hok.fresh (Nat.le_refl _))⟩
      exact ⟨Nat.le_trans (cutK_len k0) hz, _, 0, cutK_vals r lo hi k, Heap.get?_push_size _ rfl⟩
    · exact False.elim h
  · rename_i ds k
    split at h
    · rename_i k0
      rw [Bool.and_eq_true] at k0
      have k1 : k ≠ 1 := by simpa using k0.2
      have k0 : k ≠ 0 := by simpa using k0.1
      obtain ⟨a1, xs, rfl, h1, f1⟩ := la.tuple
      cases rx
      obtain ⟨its, r, ht, hz⟩ := I.tuple h1
      have hlen : its.toArray.size = xs.length := by rw [List.size_toArray]; exact r.length.symm
      refine ⟨"tuple", _, PyProof.Rows.slot_tuple_getitem.lookup, ht.typeIs, ?_⟩
      refine getItem_tuple_k ht hs pl pu ps k0 k1 ?_ (by rw [hlen]; exact hz)
      refine ⟨.ref s.heap.objs.size, _, I.laid (t' := s.toks) (o := .tup (cutK xs lo hi k)) (fun b ob q => Heap.get?_push_of_some _ q) (Nat.le_refl _) ?_, rfl, endF_tup h rw' (cutK_fz f1 lo hi k) (I.hok.fresh (Nat.le_refl _))⟩
      exact ⟨Nat.le_trans (cutK_len k0) hz, _, cutK_vals r lo hi k, IsTup.new _ _⟩
    · exact False.elim h
  · exact False.elim h
end Pv
namespace PySem.PvX
open PySem
theorem enum_new1 {v : Value} {o : Obj} {H : Heap → Prop} (B : Begins v o H) :
    Meets (Builtin.«enumerate.__new__» ⟨[.type "enumerate", v], []⟩) (fun _ R s => H s.heap ∧
      R (.ok (.ret (.ref (s.heap.push o).objs.size))) { s with heap := (s.heap.push o).push { cls := .type "enumerate", data := .fields #[.none, .bool false, .ref s.heap.objs.size, rawInt 0, .none, .none] } }) :=
  .of_wp fun prog w A R s h => by
    obtain ⟨hp, g, d, tk, os⟩ := s
    obtain ⟨h1, h⟩ := h
    have hsub := sub_enumerate
    have q1 : ∀ {A' : Around} {E : Value → Shared → Prop} {Q : Value → Shared → Prop}, Q (.ref hp.objs.size) ⟨hp.push o, g, d, tk, os⟩ → wpAny (model prog w) A' (pyIter v) Q E ⟨hp, g, d, tk, os⟩ :=
      fun q => B.iter prog w _ _ ⟨hp, g, d, tk, os⟩ _ h1 q
    wp_walk using q1
    refine wpAny_stack_any fun st => wpAny_pure ?_
    split
    · rename_i c _ _ _ _ _
      cases (c == Value.type "enumerate") <;> (wp_walk using q1; exact ⟨_, rfl, h⟩)
    · wp_walk using q1
      exact ⟨_, rfl, h⟩
theorem enum_call1 {prog : Program} {w : World} {A : Around} {E : Value → Shared → Prop} {s : Shared} {v : Value} {o : Obj} {H : Heap → Prop} {Q : Value → Shared → Prop} (B : Begins v o H) (h1 : H s.heap)
    (h : ∀ h', IsEnum h' (s.heap.objs.size + 1) s.heap.objs.size 0 .none → h'.get? s.heap.objs.size = some o → (∀ b o, s.heap.get? b = some o → h'.get? b = some o) → Q (.ref (s.heap.objs.size + 1)) { s with heap := h' }) :
    wpAny (model prog w) A (call (.type "enumerate") [v]) Q E s := by
  refine callType_new F.called_enumerate (by decide) (F.typeCall_enumerate_1 _) (F.newCall_enumerate_1 _) (fun obj => F.args_object_init_2 obj _) F.entry_enumerate_new (enum_new1 B) ⟨h1, ?_⟩
  have hz : (s.heap.push o).objs.size = s.heap.objs.size + 1 := Heap.size_push ..
  show _ ∧ _
  rw [hz]
  have he : IsEnum ((s.heap.push o).push { cls := .type "enumerate", data := .fields #[.none, .bool false, .ref s.heap.objs.size, rawInt 0, .none, .none] }) (s.heap.objs.size + 1) s.heap.objs.size 0 .none := by
    have := Heap.get?_push_size (s.heap.push o) (o := { cls := .type "enumerate", data := .fields #[.none, .bool false, .ref s.heap.objs.size, rawInt 0, .none, .none] }) rfl
    rw [hz] at this
    exact this
  exact ⟨⟨_, he, rfl⟩, h _ he (Heap.get?_push_of_some _ (Heap.get?_push_size _ B.free)) fun b o x => Heap.get?_push_of_some _ (Heap.get?_push_of_some _ x)⟩
end PySem.PvX
namespace Pv
open PySem PySem.Spec PyProof.Rows L2
def IteT (K : PySem.W.Frag) (a : Addr) : L2.It :=
  ⟨fun i H => ∃ (xs : List V) (x : V), SqT K H a xs ∧ xs[i]? = some x, fun i H v H' => ∃ T x, v = .ref T ∧ H T = none ∧ H' = upd H T (.tup [.int (i : Nat), x]) ∧ ∀ xs, SqT K H a xs → xs[i]? = some x, fun i H => ∃ xs : List V, SqT K H a xs ∧ xs.length ≤ i⟩
theorem turn_enumT {P : Program} {w : World} {K : PySem.W.Frag} {elts : List Expr} {kk : Nat} {tpos : Pos} (a e it : Addr) :
    Turn P w K (.Tuple elts kk tpos) (IteT K a) [e, it] e (fun i h => (∃ old, IsEnum h e it ((i : Nat) : Int) old) ∧ h.IsTupleIter it a i ∧ e ≠ it ∧ a ≠ it ∧ e ≠ a) where
  mem := by simp
  obj := fun i h st b hb => by
    obtain ⟨⟨old, he⟩, ⟨o, ho, hc, hd⟩, _⟩ := st
    have e' : b = e ∨ b = it := by simpa using hb
    rcases e' with z | z
    · rw [z]; exact ⟨_, he, fun v q => nomatch q⟩
    · rw [z]; exact ⟨o, ho, fun v q => by rw [hd] at q; cases q⟩
  keep := fun i h h' st k => let ⟨⟨old, he⟩, hi, r⟩ := st; ⟨⟨old, k e (by simp) _ he⟩, hi.at fun o q => k it (by simp) o q, r⟩
  item := by
    intro X hP hw hK hc i pins s σ H E I hf st hg
    subst hP hw hK
    obtain ⟨⟨old, he⟩, hit, hne, hai, hea⟩ := st
    obtain ⟨xs, x, hq, hx⟩ := hg
    obtain ⟨its, rv, p, hz⟩ := I.tuple hq
    obtain ⟨u, hu, ru⟩ := rv.get hx
    have hel : e < s.heap.objs.size := Heap.lt_size he
    have hil : it < s.heap.objs.size := by obtain ⟨_, q, _⟩ := hit; exact Heap.lt_size q
    have hi : i < its.toArray.size := by
      rw [List.size_toArray]
      exact (List.getElem?_eq_some_iff.mp hu).1
    refine wpAny_pyNext_enum_itemC (Draws.tuple (show X.A.in1.handled = none from I.ok.hd hc) it a hai its.toArray) he ⟨hit, p⟩ hi hne (by simp [hne, hea]) fun y h' tk hy ho st' hT hsz hk => ?_
    have ey : y = u := by
      have : its[i]? = some y := by simpa using hy
      rw [hu] at this
      exact (Option.some.inj this).symm
    subst ey
    obtain ⟨hit', p'⟩ := st'
    refine ⟨_, rfl, wpAny_letOwnedTupleGo_enum (s := { s with heap := h', toks := tk + 1 }) ho fun h'' he' sb => ?_⟩
    have hT2 : h''.get? s.heap.objs.size = some { cls := .type "tuple", data := .seq #[.int i tk, y] } := (sb.2 _ (Nat.ne_of_gt hel)).trans hT
    have new : ObjOk X.prog X.w (upd H s.heap.objs.size (.tup [.int (i : Nat), x])) h'' s.heap.objs.size (.tup [.int (i : Nat), x]) :=
      ⟨by show 2 ≤ sizeLine; decide, [.int i tk, y], .cons ⟨_, rfl⟩ (.cons ru .nil), ⟨_, hT2, rfl, _, rfl⟩⟩
    have I1 : Inv X pins σ (upd H s.heap.objs.size (.tup [.int (i : Nat), x])) { s with heap := h'', toks := tk + 1 } :=
      I.turnedNew (ch := [e, it]) (fun b ob hb q => (sb.2 b (fun z => hb (by simp [z]))).trans (hk b ob (fun z => hb (by simp [z])) (fun z => hb (by simp [z])) q)) hf (Nat.le_refl _) new
    refine ⟨.ref s.heap.objs.size, _, I1, rfl, ⟨_, x, rfl, I.hok.fresh (Nat.le_refl _), rfl, fun ys hy => by rw [I.tuple_inj hy hq]; exact hx⟩, ⟨⟨y, ?_⟩, hit'.at fun o q => (sb.2 it (Ne.symm hne)).trans q, hne, hai, hea⟩, fun b hb => ?_⟩
    · have e1 : ((i + 1 : Nat) : Int) = (i : Int) + 1 := by omega
      rw [e1]; exact he'
    · have hb' : b < s.heap.objs.size := by
        have e' : b = e ∨ b = it := by simpa using hb
        rcases e' with z | z
        · rw [z]; exact hel
        · rw [z]; exact hil
      rw [upd_ne (Nat.ne_of_lt hb')]
      exact (hf b hb).1
  done := by
    intro X hP hw hK hc i pins s σ H E I hf st hg
    subst hP hw hK
    obtain ⟨⟨old, he⟩, hit, hne, hai, hea⟩ := st
    obtain ⟨xs, hq, hx⟩ := hg
    obtain ⟨its, rv, p, hz⟩ := I.tuple hq
    obtain ⟨f0, f1, f2, f3, f4, f5⟩ := hf it (by simp)
    have hl := rv.length
    have hh : X.A.in1.handled = none := I.ok.hd hc
    have D : Draws X.prog X.w X.A.in1 it [it, a] 0 (fun _ _ => False) (fun _ h => h.IsTupleIter it a i ∧ h.IsTuple a its.toArray) :=
      { live := fun _ _ st => let ⟨o, ho, _⟩ := st.1; ⟨o, ho⟩
        frame := fun _ _ _ st hk => ⟨st.1.at fun o e => hk it (by simp) o e, st.2.at fun o e => hk a (by simp) o e⟩
        item := fun j s Q E hi st hQ => absurd hi (Nat.not_lt_zero _)
        done := fun s Q E st hE => wpAny_nextOf_tuple_end hh st.1 st.2 (by rw [Array.getElem?_eq_none_iff, List.size_toArray]; omega) hE }
    exact wpAny_pyNext_enum_endD D he ⟨hit, p⟩ fun h' eb => ⟨rfl, I.turned (t' := s.toks) (fun b o hb q => eb b o hb q) f0 f1 f3 f4 f5⟩
  self := fun A i s Q E st h => let ⟨⟨_, he⟩, _⟩ := st; wpAny_pyIter_enum he h
def iEnumA (K : PySem.W.Frag) (ta : TA) : TI := fun σ H R => ta σ H fun vs H1 => ∃ a xs, vs = [.ref a] ∧ ((SqL K H1 a xs ∧ R (Ite K a) H1) ∨ (SqT K H1 a xs ∧ R (IteT K a) H1))
theorem pi_enumA {X : Cx} {e : Expr} {ta : TA} {p pos tpos : Pos} {elts : List Expr} {kk : Nat} (hg : Gl X "enumerate") (hm : X.mg "enumerate" = none) (ha : PA X [e] ta) (hs : starEach [e] X.env = [(false, eval e X.env)]) :
    PI X (.Tuple elts kk tpos) (.Call (.Name "enumerate" p) [e] [] pos) (iEnumA X.K ta) := by
  refine ⟨fun pins s σ H R I h => ?_⟩
  refine Call_ (ld_blt I hg hm boot_enumerate (PyProof.Rows.callWith_type1 (thn (ha.run pos pins s σ H _ I h) fun us s1 ⟨vs, H1, I1, r1, q1⟩ => ?_) hs rfl))
  obtain ⟨a, xs, ex, q1⟩ := q1
  subst ex
  cases r1 with
  | cons r rr =>
  cases rr
  cases r
  have far : ∀ (h' : Heap) (b : Addr), b ∈ [s1.heap.objs.size + 1, s1.heap.objs.size] → s1.heap.objs.size ≤ b := fun h' b hb => by
    have e' : b = s1.heap.objs.size + 1 ∨ b = s1.heap.objs.size := by simpa using hb
    rcases e' with z | z <;> rw [z]
    · exact Nat.le_add_right _ _
    · exact Nat.le_refl _
  rcases q1 with ⟨hq, q⟩ | ⟨hq, q⟩
  · obtain ⟨its, rv, p', hz⟩ := I1.list hq
    refine PvX.enum_call1 (begins_list a its.toArray) p'.isList fun h' he hit hk => wpAny_pyIter_enum he ?_
    have I2 : Inv X pins σ H1 { s1 with heap := h' } := I1.kept (t' := s1.toks) hk
    exact ⟨s1.heap.objs.size + 1, [s1.heap.objs.size + 1, s1.heap.objs.size], _, _, H1, rfl, I2, turn_enum a (s1.heap.objs.size + 1) s1.heap.objs.size, ⟨⟨.none, he⟩, ⟨_, hit, rfl, rfl⟩, Nat.succ_ne_self _⟩, fun b hb => I1.fpOk (far h' b hb) (I1.hok.fresh (far h' b hb)), q⟩
  · obtain ⟨its, rv, p', hz⟩ := I1.tuple hq
    have hal : a < s1.heap.objs.size := IsTup.lt p'
    refine PvX.enum_call1 (begins_tuple a its.toArray) p' fun h' he hit hk => wpAny_pyIter_enum he ?_
    have I2 : Inv X pins σ H1 { s1 with heap := h' } := I1.kept (t' := s1.toks) hk
    exact ⟨s1.heap.objs.size + 1, [s1.heap.objs.size + 1, s1.heap.objs.size], _, _, H1, rfl, I2, turn_enumT a (s1.heap.objs.size + 1) s1.heap.objs.size,
      ⟨⟨.none, he⟩, ⟨_, hit, rfl, rfl⟩, Nat.succ_ne_self _, Nat.ne_of_lt hal, Nat.ne_of_gt (Nat.lt_succ_of_lt hal)⟩, fun b hb => I1.fpOk (far h' b hb) (I1.hok.fresh (far h' b hb)), q⟩
end Pv
namespace Pv
open PySem PySem.Spec PyProof.Rows L2
def T.nm : T → String
  | .int => "int"
  | .bool => "bool"
  | .str => "str"
  | .tuple => "tuple"
  | .list => "list"
  | .dict => "dict"
inductive N7 where
  | n | b | i | s | l | t | d
def N7.nm : N7 → String
  | .n => "NoneType"
  | .b => "bool"
  | .i => "int"
  | .s => "str"
  | .l => "list"
  | .t => "tuple"
  | .d => "dict"
def N7.is : N7 → T → Bool
  | .b, .bool => true
  | .b, .int => true
  | .i, .int => true
  | .s, .str => true
  | .t, .tuple => true
  | .l, .list => true
  | .d, .dict => true
  | _, _ => false
def n7 : D → N7
  | .none => .n
  | .bool _ => .b
  | .int _ => .i
  | .str _ => .s
  | .list _ => .l
  | .tuple _ => .t
  | .dict _ => .d
def tyNm (d : D) : String := (n7 d).nm
theorem kit0 (n : N7) (t : T) : kitB n.nm t.nm = some (n.is t) := by
  cases n <;> cases t <;> decide +kernel
theorem kit1 (d : D) (t : T) : kitB (tyNm d) t.nm = some (tyB d t) := by
  have e : tyB d t = (n7 d).is t := by cases d <;> cases t <;> rfl
  rw [e]
  exact kit0 _ _
theorem kit_any {K : PySem.W.Frag} (d : D) : ∀ ts : List T, PySem.W.kitAny K (.type (tyNm d)) (ts.map fun t => Value.type t.nm) = some (ts.any (tyB d))
  | [] => kitAny_nil
  | t :: ts => by
    refine kitAny_cons (kit_ty (kit1 d t)) (fun h => ?_) (fun h => ?_)
    · rw [List.any_cons, h, Bool.false_or]
      exact kit_any d ts
    · rw [List.any_cons, h, Bool.true_or]
theorem Lv.ty {K : PySem.W.Frag} {H : Hp} {v : V} {d : D} (h : Lv K H v d) : TyX K H v (.type (tyNm d)) := by
  cases h with
  | lst e r => exact .base (.lst e)
  | fz h =>
    cases h with
    | non => exact .base .non
    | bl b => exact .base (.bl b)
    | int i => exact .base (.int i)
    | str x => exact .base (.str x)
    | lst h r => obtain ⟨o, e⟩ := h; exact .base (.frz e)
    | tup h r =>
      rcases h with (e | ⟨o, e⟩) | ⟨o, its, n, e, c, _⟩
      · exact .base (.tup e)
      · exact .fTuple e
      · exact .kTuple e c
    | dct h => obtain ⟨o, e⟩ := h; exact .fDict e
def TyArg (H : Hp) (ts : List T) (c : V) : Prop := match ts with
  | [t] => c = .ty t.nm
  | ts => ∃ p, c = .ref p ∧ H p = some (.tup (ts.map fun t => V.ty t.nm))
def rIsT (T' : Tab) (K : PySem.W.Frag) (ts : List T) : List V → Hp → VK → Prop := fun xs H Q => ∃ ms w u k x c, xs = [x, c] ∧ RelI T' K ms H u x ∧ RelW K ms H w ∧ isiV w ts u = some k ∧ TyArg H ts c ∧ Q (.bl k) H
theorem tys_cls : ∀ ts : List T, Paired ClsV (ts.map fun t => V.ty t.nm) (ts.map fun t => Value.type t.nm)
  | [] => .nil
  | t :: ts => .cons (.ty _) (tys_cls ts)
theorem isi_ok {T' : Tab} {X : Cx} (ts : List T) : CallR X (.builtin "isinstance") (rIsT T' X.K ts) := by
  intro pins s σ H xs us Q I r h
  obtain ⟨ms, w, u, k, x, c, rfl, ru, rw', hk, ht, q⟩ := h
  unfold isiV at hk
  cases hd : rd w u with
  | none => rw [hd] at hk; cases hk
  | some d =>
  rw [hd] at hk
  cases hk
  have lv := rd_lv ru rw' hd
  unfold TyArg at ht
  split at ht
  · rename_i t
    subst ht
    refine call_isi pins s σ H _ us Q I r ⟨x, _, _, _, tyB d t, rfl, .ty _, lv.ty, kit_ty (kit1 d t), ?_⟩
    have e : [t].any (tyB d) = tyB d t := by simp
    rw [← e]; exact q
  · obtain ⟨p, rfl, hp⟩ := ht
    exact call_isiT pins s σ H _ us Q I r ⟨x, p, _, _, _, _, rfl, hp, tys_cls ts, lv.ty, kit_any d ts, q⟩
def rMth (T' : Tab) (K : PySem.W.Frag) (m : M) : V → List V → Hp → VK → Prop := fun x xs H Q => ∃ ms w u us ds P, RelI T' K ms H u x ∧ RelA T' K ms H us xs ∧ RelW K ms H w ∧ purs us = some ds ∧ endsR T' K ms H P (relI T' K) Q (mthW m u ds w)
theorem purs_fz {T' : Tab} {K : PySem.W.Frag} {ms : List Addr} {H : Hp} : ∀ {us : List IV} {xs : List V} {ds : List D}, RelA T' K ms H us xs → purs us = some ds → FzAll K H xs ds
  | [], _, _, .nil, e => by cases e; exact .nil
  | .d x :: us, _, ds, .cons r rr, e => by
    unfold purs at e
    cases h2 : purs us with
    | none => rw [h2] at e; cases e
    | some es =>
    rw [h2] at e
    cases e
    exact .cons r (purs_fz rr h2)
  | .ref _ :: _, _, _, _, e => by cases e
  | .exc _ _ :: _, _, _, _, e => by cases e
theorem end_set {T' : Tab} {K : PySem.W.Frag} {ms : List Addr} {H : Hp} {P : Value → Option Addr → Hp → Prop} {α β : Type} {rel : Rel α β} {Q : β → Hp → Prop} {w : W} {n : Nat} {a : Addr} {ds' : List D} {xs xs' : List V} {v : α} {u : β} (h : endsR T' K ms H P rel Q (.ok v (w.set n (.lst ds')))) (rw' : RelW K ms H w)
    (hn : ms[n]? = some a) (he : H a = some (.lst xs)) (f : FzAll K H xs' ds') (r : ∀ H', Grow H H' → rel H ms H' v u) : Q u (upd H a (.lst xs')) := by
  have g : Ext H ms (upd H a (.lst xs')) ms := Ext.set he trivial (List.mem_of_getElem? hn)
  exact h u _ ms g (r _ g.toGrow) (rw'.set hn he trivial ⟨xs', upd_same, f.grow g.toGrow⟩)
theorem cell_lst {T' : Tab} {K : PySem.W.Frag} {ms : List Addr} {H : Hp} {w : W} {n : Nat} {x : V} {ds : List D} (ru : RelI T' K ms H (.ref n) x) (rw' : RelW K ms H w) (e : w[n]? = some (.lst ds)) : ∃ a xs, x = .ref a ∧ ms[n]? = some a ∧ H a = some (.lst xs) ∧ FzAll K H xs ds := by
  obtain ⟨a, h1, rfl⟩ := ru
  obtain ⟨xs, h2, h3⟩ := rw'.at_ n _ a e h1
  exact ⟨a, xs, rfl, h1, h2, h3⟩
def mthId : M → String
  | .append => "list.append"
  | .insert => "list.insert"
  | .pop => "list.pop"
  | .popAt => "list.pop"
  | .extend => "list.extend"
theorem mt_extR {X : Cx} {pins : List (Addr × Obj)} {s : Shared} {σ : List (Option V)} {H : Hp} {l b : Addr} {xs zs : List V} {us : List Value} {Q : VK} (I : Inv X pins σ H s) (rv : Vals [V.ref b] us) (hH : H l = some (.lst xs)) (hB : FzL X.K H b zs) (hz : xs.length + zs.length ≤ sizeLine)
    (q : Q .non (upd H l (.lst (xs ++ zs)))) : wpAny (model X.prog X.w) X.A (call (.builtin "list.extend") (.ref l :: us)) (EP X pins σ Q) X.xe s := by
  obtain ⟨u, rfl, ru⟩ := rv.one
  cases ru
  obtain ⟨z, its, n, r, hl, e⟩ := I.lstM hH
  obtain ⟨z2, its2, n2, r2, hl2, e2⟩ := Inv.lstR I hB.rd
  have hsz : its.toArray.size + its2.toArray.size ≤ sizeLine := by rw [List.size_toArray, List.size_toArray]; omega
  have hlong : ¬ (!its.toArray.isEmpty && Builtin.List.listTooLong (its.toArray.size + its2.toArray.size)) = true := by
    rw [notLongL hsz, Bool.and_false]
    exact Bool.false_ne_true
  refine call_meets F.slot_list_extend ⟨_, e, rfl⟩ F.entry_list_extend (F.args_list_extend_2 _ _)
    (AutoSeq1.list_extend_list_list_0 l its.toArray n b its2.toArray n2 hlong (by rw [List.size_toArray]; omega) (by omega)) ⟨e, e2, ?_⟩
  refine ⟨.non, _, I.lset (its' := its ++ its2) hH e (by simp) (r.append r2) ?_, rfl, q⟩
  rw [List.length_append]
  omega
theorem FzAll.erase {K : PySem.W.Frag} {H : Hp} : ∀ {vs : List V} {ds : List D} (n : Nat), FzAll K H vs ds → FzAll K H (vs.eraseIdx n) (ds.eraseIdx n)
  | _, _, 0, .nil => .nil
  | _, _, 0, .cons _ r => r
  | _, _, _ + 1, .nil => .nil
  | _, _, n + 1, .cons h r => .cons h (FzAll.erase n r)
theorem mth_ok {T' : Tab} {X : Cx} (m : M) : MtR X (mthId m) (rMth T' X.K m) := by
  intro pins s σ H x xs v us Q I rx rv h
  obtain ⟨ms, w, u, as, ds, P, ru, ra, rw', hp, h⟩ := h
  have f := purs_fz ra hp
  unfold mthW at h
  split at h
  · cases f with
    | cons fx f0 =>
    cases f0
    split at h
    · rename_i ys hc
      obtain ⟨a, zs, rfl, hn, he, fz⟩ := cell_lst ru rw' hc
      split at h
      · rename_i hz
        refine mt_append pins s σ H _ _ v us Q I rx rv ⟨a, zs, _, rfl, rfl, he, by rw [fz.length, sizeLine_eq]; exact of_decide_eq_true hz, ?_⟩
        exact end_set h rw' hn he (fz.append (.cons fx .nil)) fun H' _ => .non
      · exact False.elim h
    · exact False.elim h
  · cases f with
    | cons fi f =>
    cases f with
    | cons fx f0 =>
    cases f0
    cases fi
    split at h
    · rename_i ys hc
      obtain ⟨a, zs, rfl, hn, he, fz⟩ := cell_lst ru rw' hc
      split at h
      · rename_i hz
        simp only [Bool.and_eq_true, decide_eq_true_eq] at hz
        refine mt_insert pins s σ H _ _ v us Q I rx rv ⟨a, zs, _, _, rfl, rfl, he, by rw [fz.length, sizeLine_eq]; exact hz.1.1, hz.1.2, hz.2, ?_⟩
        exact end_set h rw' hn he (((fz.take _).append (.cons fx .nil)).append (fz.drop _)) fun H' _ => .non
      · exact False.elim h
    · exact False.elim h
  · cases f with
    | cons fi f0 =>
    cases f0
    cases fi
    split at h
    · rename_i ys hc
      obtain ⟨a, zs, rfl, hn, he, fz⟩ := cell_lst ru rw' hc
      split at h
      · rename_i j hj
        split at h
        · rename_i x hx
          split at h
          · rename_i hz
            simp only [Bool.and_eq_true, decide_eq_true_eq] at hz
            obtain ⟨q, hq, fq⟩ := fz.get hx
            refine mt_popAt pins s σ H _ _ v us Q I rx rv ⟨a, zs, _, j, q, rfl, rfl, he, hz.1, hz.2, ?_, hq, ?_⟩
            · exact (ixN_seq (n := zs.length) (by rw [fz.length, ← ixN_L]; exact hj)).1
            · exact end_set h rw' hn he (fz.erase j) fun H' g => Fz.grow g fq
          · exact False.elim h
        · exact False.elim h
      · exact False.elim h
    · exact False.elim h
  · cases f with
    | cons fx f0 =>
    cases f0
    cases fx with
    | lst hb fzb =>
    split at h
    · rename_i ys hc
      obtain ⟨a, zs, rfl, hn, he, fz⟩ := cell_lst ru rw' hc
      split at h
      · rename_i hz
        cases rx
        exact mt_extR I rv he hb (by rw [fz.length, fzb.length, sizeLine_eq]; exact of_decide_eq_true hz) (end_set h rw' hn he (fz.append fzb) fun H' _ => .non)
      · exact False.elim h
    · exact False.elim h
  · exact False.elim h
theorem Inv.freeze {X : Cx} {pins : List (Addr × Obj)} {σ : List (Option V)} {H : Hp} {s : Shared} {a : Addr} {xs : List V} (I : L2.Inv X pins σ H s) (h : H a = some (.lst xs)) : ∃ o, L2.Inv X pins σ (upd H a (.frz o (.lst xs))) s := I.lock h trivial
theorem pe_fast {X : Cx} {e : Expr} {t : TE} (he : PE X e t) : PE X e (fun σ H Q => t σ H fun u H1 => (∃ a xs, u = .ref a ∧ H1 a = some (.lst xs) ∧ ∀ o, Q u (upd H1 a (.frz o (.lst xs)))) ∨ Q u H1) := by
  refine ⟨fun pins s σ H Q I h => ?_⟩
  refine thn (he.run pins s σ H _ I h) fun v s1 ⟨u, H1, I1, r1, q1⟩ => ?_
  rcases q1 with ⟨a, xs, rfl, hh, q⟩ | q
  · obtain ⟨o, I2⟩ := Inv.freeze I1 hh
    exact ⟨_, _, I2, r1, q o⟩
  · exact ⟨_, _, I1, r1, q⟩
theorem pe_fastU {X : Cx} {e : Expr} {t : TE} (he : PE X e t) : PE X e (fun σ H Q => t σ H fun u H1 => ∃ a x, u = .ref a ∧ H1 a = some x ∧ Mut (some x) ∧ ∀ o, Q u (upd H1 a (.frz o x))) := by
  refine ⟨fun pins s σ H Q I h => ?_⟩
  refine thn (he.run pins s σ H _ I h) fun v s1 ⟨u, H1, I1, r1, q1⟩ => ?_
  obtain ⟨a, x, rfl, hh, m, q⟩ := q1
  obtain ⟨o, I2⟩ := I1.lock hh m
  exact ⟨_, _, I2, r1, q o⟩
theorem pe_dct {T' : Tab} {X : Cx} {Wx : WX} {pos : Pos} : PE X (.Dict [] [] pos) (tI T' X.K Wx fun _ w => .ok (.d (.dict [])) w) := by
  refine PE.imp (pe_fastU pe_dnewK) fun σ H Q ⟨ms, iσ, w, s, q⟩ => fun p hp => ⟨p, _, rfl, upd_same, trivial, fun o => ?_⟩
  have g1 : Ext H ms (upd H p (.dK [])) ms := Ext.new hp
  have g : Ext H ms (upd (upd H p (.dK [])) p (.frz o (.dK []))) ms := g1.later hp upd_same trivial
  refine q _ _ ms g (show Fz _ _ _ _ from .dct ⟨o, upd_same⟩) (s.w.move g.toGrow fun a ha u e => ?_)
  rw [upd_ne (ne_of_none e hp), upd_ne (ne_of_none e hp)]
  exact e
def tF (T' : Tab) (K : PySem.W.Frag) (Wx : WX) (f : Sl → W → R IV) : TE := fun σ H Q => ∃ ms iσ w, Sim T' K ms H iσ σ w ∧ endsR T' K ms H (fun c d H' => Wx c d σ H') (RelF T' K) Q (f iσ w)
theorem RelF.cases {T' : Tab} {K : PySem.W.Frag} {H0 : Hp} {ms : List Addr} {H : Hp} {v : IV} {u : V} (r : RelF T' K H0 ms H v u) : (∃ ds a xs, v = .d (.list ds) ∧ u = .ref a ∧ H0 a = none ∧ a ∉ ms ∧ H a = some (.lst xs) ∧ FzAll K H xs ds) ∨ ((∀ ds, v ≠ .d (.list ds)) ∧ RelI T' K ms H v u) := by
  unfold RelF at r
  split at r
  · obtain ⟨a, xs, h1, h0, h2, h3, h4⟩ := r
    exact .inl ⟨_, a, xs, rfl, h1, h0, h2, h3, h4⟩
  · rename_i hn
    exact .inr ⟨hn, r⟩
theorem RelW.keep {K : PySem.W.Frag} {ms : List Addr} {H : Hp} {w : W} (r : RelW K ms H w) {a : Addr} {o u : HO} (he : H a = some u) (m : Mut (some u)) (hn : a ∉ ms) : RelW K ms (upd H a o) w :=
  r.move (Grow.set he m) fun b hb z e => by
    have hba : b ≠ a := fun q => hn (by rw [← q]; exact hb)
    rw [upd_ne hba]
    exact e
theorem freezeF {T' : Tab} {X : Cx} {Wx : WX} {e : Expr} {f : Sl → W → R IV} (h : PE X e (tF T' X.K Wx f)) : PE X e (tI T' X.K Wx f) := by
  refine PE.imp (pe_fast h) fun σ H Q q => ?_
  obtain ⟨ms, iσ, w, s, q⟩ := q
  refine ⟨ms, iσ, w, s, ?_⟩
  cases hf : f iσ w with
  | no => rw [hf] at q; exact q
  | exc c x w1 => rw [hf] at q; exact q
  | ok v w1 =>
    rw [hf] at q
    intro u H1 ms1 g1 r1 w1'
    rcases RelF.cases r1 with ⟨ds, a, xs, rfl, rfl, h0, hn, he, fz⟩ | ⟨hn, r⟩
    · refine .inl ⟨a, xs, rfl, he, fun o => ?_⟩
      have g : Grow H1 (upd H1 a (.frz o (.lst xs))) := Grow.set he trivial
      exact q _ _ ms1 (g1.later h0 he trivial) (show Fz _ _ _ _ from .lst ⟨o, upd_same⟩ (fz.grow g)) (w1'.keep he trivial hn)
    · exact .inr (q _ _ ms1 g1 r w1')
theorem newF {T' : Tab} {X : Cx} {Wx : WX} {e : Expr} {f : Sl → W → R IV} (h : PE X e (tF T' X.K Wx f)) : PE X e (tI T' X.K Wx fun σ w => (f σ w).bind fun v w1 => newW w1 v) := by
  refine PE.imp h fun σ H Q q => ?_
  obtain ⟨ms, iσ, w, s, q⟩ := q
  refine ⟨ms, iσ, w, s, ?_⟩
  dsimp only at q
  cases hf : f iσ w with
  | no => rw [hf] at q; exact q
  | exc c x w1 => rw [hf] at q; exact q
  | ok v w1 =>
  rw [hf] at q
  intro u H1 ms1 g1 r1 w1'
  have q2 : endsR T' X.K ms H (fun c d H' => Wx c d σ H') (relI T' X.K) Q (newW w1 v) := q
  rcases RelF.cases r1 with ⟨ds, a, xs, rfl, rfl, h0, hn, he, fz⟩ | ⟨hn, r⟩
  · exact q2 _ H1 (ms1 ++ [a]) (g1.cell h0) ⟨a, by rw [List.getElem?_append_right (by rw [w1'.len]; exact Nat.le_refl _), w1'.len]; simp, rfl⟩ (w1'.push hn ⟨xs, he, fz⟩)
  · unfold newW at q2
    split at q2
    · exact absurd rfl (hn _)
    · exact False.elim q2
theorem pe_frz {T' : Tab} {X : Cx} {Wx : WX} {i : Nat} {x : Str} {pos : Pos} (hN : X.N[i]? = some x) (hv : Vis X.env.scope x) (hd : (x == ("__debug__" : Str)) = false) (hcd : (x == ("__classdict__" : Str)) = false) :
    PE X (.Name x pos) (tI T' X.K Wx fun σ w => (ofO (slot σ i) w).bind fun v w => frzW w v) := by
  refine PE.imp (pe_fast (pe_var (i := i) hN hv hd hcd)) fun σ H Q q => ?_
  obtain ⟨ms, iσ, w, s, q⟩ := q
  dsimp only at q
  cases hs : slot iσ i with
  | none => rw [hs] at q; exact False.elim q
  | some v =>
  rw [hs] at q
  obtain ⟨u, hu, ru⟩ := s.sl i v hs
  refine ⟨u, hu, ?_⟩
  have q' : endsR T' X.K ms H (fun c d H' => Wx c d σ H') (relI T' X.K) Q (frzW w v) := q
  unfold frzW at q'
  split at q'
  · exact .inr (endI q' ru s.w)
  · rename_i n
    split at q'
    · rename_i ds hc
      obtain ⟨a, xs, rfl, hn, he, fz⟩ := cell_lst ru s.w hc
      refine .inl ⟨a, xs, rfl, he, fun o => ?_⟩
      have g : Ext H ms (upd H a (.frz o (.lst xs))) ms := Ext.set he trivial (List.mem_of_getElem? hn)
      exact q' _ _ ms g (show Fz _ _ _ _ from .lst ⟨o, upd_same⟩ (fz.grow g.toGrow)) (s.w.set hn he trivial ⟨_, upd_same⟩)
    · exact False.elim q'
  · exact False.elim q'
theorem pe_slot {T' : Tab} {X : Cx} {Wx : WX} {i : Nat} {x : Str} {pos : Pos} (hN : X.N[i]? = some x) (hv : Vis X.env.scope x) (hd : (x == ("__debug__" : Str)) = false) (hcd : (x == ("__classdict__" : Str)) = false) :
    PE X (.Name x pos) (tI T' X.K Wx fun σ w => ofO (slot σ i) w) := by
  refine PE.imp (pe_var (i := i) hN hv hd hcd) fun σ H Q q => ?_
  obtain ⟨ms, iσ, w, s, q⟩ := q
  dsimp only at q
  cases hs : slot iσ i with
  | none => rw [hs] at q; exact False.elim q
  | some v =>
  rw [hs] at q
  obtain ⟨u, hu, ru⟩ := s.sl i v hs
  exact ⟨u, hu, endI q ru s.w⟩
theorem pe_data {T' : Tab} {X : Cx} {Wx : WX} {e : Expr} {v : V} {x : D} (h : PE X e (tC v)) (r : ∀ H, Fz X.K H v x) : PE X e (tI T' X.K Wx fun _ w => .ok (.d x) w) :=
  PE.imp h fun σ H Q ⟨ms, iσ, w, s, q⟩ => endI q (r H) s.w
end Pv
namespace Pv
open PySem PySem.Spec PyProof.Rows L2
structure Cc where
  N : List Str
  sc : Scope
  fs : List (Str × List Str)
  gl : List Str
  bs : List B
  ms : List Str
  kw : List (Nat × Nat × List Str × List Nat)
  cl : List Str
def visB (sc : Scope) (x : Str) : Bool := match sc.names.lookup x with
  | some .local => true
  | some .cell => true
  | some .free => true
  | _ => false
def locB (sc : Scope) (x : Str) : Bool := match sc.names.lookup x with
  | some .local => true
  | some .cell => true
  | _ => false
def justL (sc : Scope) (x : Str) : Bool := match sc.names.lookup x with
  | some .local => true
  | _ => false
def glB (sc : Scope) (x : Str) : Bool := match sc.names.lookup x with
  | some .globalImplicit => !decide (x = "__debug__")
  | _ => false
def plainN (x : Str) : Bool := !decide (x = "__debug__") && !decide (x = "__classdict__")
def isS (x : Str) (y : Str) : Bool := decide (x = y)
def B.nm : B → Str
  | .len => "len"
  | .int => "int"
  | .abs => "abs"
  | .max => "max"
  | .min => "min"
  | .sum => "sum"
  | .all => "all"
  | .any => "any"
  | .tuple => "tuple"
  | .list => "list"
  | .gcd => "gcd"
  | .lcm => "lcm"
  | .isqrt => "isqrt"
  | .sorted => "sorted"
  | .str => "str"
  | .bool => "bool"
def M.nm : M → Str
  | .append => "append"
  | .insert => "insert"
  | .pop => "pop"
  | .popAt => "pop"
  | .extend => "extend"
def cstB : D → Const → Bool
  | .none, .none => true
  | .bool a, .bool b => a == b
  | .int a, .int b => a == b
  | .str a, .str b => decide (a = b)
  | _, _ => false
def tOk : Ex → Bool
  | .and a b => tOk a && tOk b
  | .or a b => tOk a && tOk b
  | .not a => tOk a
  | .var _ => true
  | .cst _ => true
  | .glob _ => true
  | .call _ _ => true
  | .callk _ _ _ _ => true
  | .callb _ _ => true
  | .blt _ _ => true
  | .isi _ _ => true
  | .cmp _ _ _ => true
  | .chain _ _ _ _ _ => true
  | .sub _ _ => true
  | _ => false
def fresh : Ex → Bool
  | .lst _ => true
  | .comp _ _ _ _ _ => true
  | .bin .Add _ _ => true
  | .bin .Mult _ _ => true
  | .blt .list _ => true
  | .sl _ _ _ => true
  | .slk _ _ _ _ => true
  | .ite _ a b => fresh a && fresh b
  | _ => false
mutual
def mT (c : Cc) : Tg → Expr → Bool
  | .nm i, .Name x _ => decide (c.N[i]? = some x) && locB c.sc x
  | .tup ts, .Tuple es _ _ => mTs c ts es
  | _, _ => false
def mTs (c : Cc) : Tg → List Expr → Bool
  | .nil, [] => true
  | .cons a r, e :: es => mT c a e && mTs c r es
  | _, _ => false
end
def noStar : Expr → Bool
  | .Starred _ _ => false
  | _ => true
def tyNames : List T → List Expr → Bool
  | [], [] => true
  | t :: ts, .Name x _ :: es => isS x (Str.ofString t.nm) && tyNames ts es
  | _, _ => false
def kwNames : List Keyword → List Str
  | [] => []
  | ⟨some x, _, _⟩ :: r => x :: kwNames r
  | ⟨none, _, _⟩ :: r => "" :: kwNames r
def tgIn : Tg → List Nat → Bool
  | .nm i, vs => decide (i ∈ vs)
  | .nil, _ => true
  | .cons a r, vs => tgIn a vs && tgIn r vs
  | .tup ts, vs => tgIn ts vs
def lcB : Expr → Bool
  | .ListComp _ _ _ _ => true
  | _ => false
def notSlice : Expr → Bool
  | .Slice _ _ _ _ => false
  | _ => true
def notSet : Expr → Bool
  | .Set _ _ _ => false
  | _ => true
mutual
def mE : Ex → Cc → Expr → Bool
  | .var i, c, .Name x _ => decide (c.N[i]? = some x) && visB c.sc x && plainN x
  | .frz i, c, .Name x _ => decide (c.N[i]? = some x) && visB c.sc x && plainN x
  | .cst d, _, .Constant k _ _ => cstB d k
  | .dct, _, .Dict [] [] _ => true
  | .glob j, c, .Name x _ => decide (c.gl[j]? = some x) && glB c.sc x
  | .tup es, c, .Tuple xs _ _ => mA es c xs
  | .lst es, c, .List xs _ => mA es c xs
  | .new a, c, x => fresh a && mE a c x
  | .lstm es, c, .List xs _ => mA es c xs
  | .subm a i, c, .Subscript x y _ => notSlice y && mE a c x && mE i c y
  | .fz a, c, x => !lcB x && mE a c x
  | .bin o a b, c, .BinOp x o' y _ => decide (o = o') && mE a c x && mE b c y
  | .neg a, c, .UnaryOp .USub x _ => mE a c x
  | .not a, c, .UnaryOp .Not x _ => mE a c x
  | .and a b, c, .BoolOp .And (x :: y :: r) p => mE a c x && (match r with
    | [] => mE b c y
    | z :: q => mE b c (.BoolOp .And (y :: z :: q) p))
  | .or a b, c, .BoolOp .Or (x :: y :: r) p => mE a c x && (match r with
    | [] => mE b c y
    | z :: q => mE b c (.BoolOp .Or (y :: z :: q) p))
  | .ite k a b, c, .IfExp z x y _ => tOk k && mE k c z && mE a c x && mE b c y
  | .cmp o a b, c, .Compare x [o'] [y] _ => decide (o = o') && mE a c x && mE b c y && !behindInMarks o y
  | .chain o o' a b z, c, .Compare x [p, p'] [y, u] _ => decide (o = p) && decide (o' = p') && mE a c x && mE b c y && mE z c u && !behindInMarks p' u
  | .call f es, c, .Call (.Name x _) (y :: ys) [] _ => (match c.fs[f]? with
    | some (n, _) => isS x n
    | none => false) && glB c.sc x && mA es c (y :: ys)
  | .callb f es, c, .Call (.Name x _) (y :: ys) [] _ => (match c.fs[f]? with
    | some (n, _) => isS x n
    | none => false) && glB c.sc x && mA es c (y :: ys)
  | .callk f es ks perm, c, .Call (.Name x _) ys kws _ => (match c.fs[f]? with
    | some (n, _) => isS x n
    | none => false) && glB c.sc x && decide ((f, ys.length, kwNames kws, perm) ∈ c.kw) && mA es c ys && mK ks c kws
  | .blt f es, c, .Call (.Name x _) (y :: ys) [] _ => isS x f.nm && glB c.sc x && decide (f ∈ c.bs) && mA es c (y :: ys)
  | .isi a ts, c, .Call (.Name x _) [y, z] [] _ => isS x "isinstance" && glB c.sc x && decide (x ∈ c.ms) && noStar y && mE a c y && (match ts, z with
    | [t], .Name u _ => isS u (Str.ofString t.nm) && glB c.sc u && decide (u ∈ c.ms)
    | t :: t' :: ts, .Tuple us _ _ => tyNames (t :: t' :: ts) us && decide (ts.length ≤ 100) && us.all (fun u => match u with
      | .Name v _ => glB c.sc v && decide (v ∈ c.ms)
      | _ => false)
    | _, _ => false)
  | .sub a i, c, .Subscript x y _ => notSlice y && mE a c x && mE i c y
  | .sl a lo hi, c, .Subscript x (.Slice l h none _) _ => mE a c x && mP lo c l && mP hi c h
  | .slk a lo hi st, c, .Subscript x (.Slice l h k _) _ => mE a c x && mP lo c l && mP hi c h && mP st c k
  | .mth m (.var i) es, c, .Call (.Attribute (.Name x p) nm ap) (y :: ys) [] cp => mE (.var i) c (.Name x p) && isS nm m.nm && (ap.endLine == cp.line) && decide (ys.length < 20) && mA es c (y :: ys)
  | .mth m (.subm a i) es, c, .Call (.Attribute (.Subscript x z p) nm ap) (y :: ys) [] cp => mE (.subm a i) c (.Subscript x z p) && isS nm m.nm && (ap.endLine == cp.line) && decide (ys.length < 20) && mA es c (y :: ys)
  | .comp own e t it k, c, .ListComp el [⟨tg, iter, ifs, a⟩] scope _ =>
      blkC c.N c.sc scope (own.map fun i => ((c.N[i]?).getD "", i)) && decide (a = 0) && notSet iter && tgIn t own && mI it c tg iter && mT { c with sc := scope } t tg && mE e { c with sc := scope } el &&
      (match ifs with
        | [] => isNil k
        | [z] => !isNil k && tOk k && mE k { c with sc := scope } z
        | _ => false)
  | _, _, _ => false
def mA : Ex → Cc → List Expr → Bool
  | .nil, _, [] => true
  | .cons a r, c, x :: xs => noStar x && mE a c x && mA r c xs
  | _, _, _ => false
def mK : Ex → Cc → List Keyword → Bool
  | .nil, _, [] => true
  | .cons a r, c, ⟨some _, x, _⟩ :: xs => mE a c x && mK r c xs
  | _, _, _ => false
def mP : Ex → Cc → Option Expr → Bool
  | .nil, _, none => true
  | .cons a .nil, c, some x => mE a c x
  | _, _, _ => false
def mI : Ex → Cc → Expr → Expr → Bool
  | .seq a, c, _, x => mE a c x
  | .rng es, c, _, .Call (.Name x _) (y :: ys) [] _ => isS x "range" && glB c.sc x && decide (x ∈ c.ms) && decide (ys.length ≤ 1) && mA es c (y :: ys)
  | .enm a, c, .Tuple _ _ _, .Call (.Name x _) [y] [] _ => isS x "enumerate" && glB c.sc x && decide (x ∈ c.ms) && noStar y && mE a c y
  | .zp a b, c, .Tuple _ _ _, .Call (.Name x _) [y, z] [] _ => isS x "zip" && glB c.sc x && decide (x ∈ c.ms) && noStar y && noStar z && mE a c y && mE b c z
  | _, _, _, _ => false
end
end Pv
namespace Pv
open PySem PySem.Spec PyProof.Rows L2
def spI (T : Tab) (K : PySem.W.Frag) (n : Nat) (F : List IV → W → R IV) : Sp := fun vs H Q Ex => vs.length = n ∧ ∃ ms w as, RelA T K ms H as vs ∧ RelW K ms H w ∧ endsR T K ms H (fun c d H' => Ex c d H') (relI T K) Q (F as w)
def pickG {α : Type} (vs : List α) : List Nat → Option (List α)
  | [] => some []
  | j :: r => (vs[j]?).bind fun v => (pickG vs r).map (v :: ·)
structure FnG (T : Tab) (c : Cc) (E : En) (P : Program) (w : World) (K : PySem.W.Frag) (mg : Str → Option Value) (base : Heap) (k : Nat) (i : Nat) (x : Str) (ps : List Str) : Prop where
  ar : ∀ us w, us.length ≠ ps.length → E.Φ i us w = .no
  ex : ∃ (f : Addr) (fd : FuncData), mg x = some (.ref f) ∧ PySem.W.keepIn K (.ref f) = true ∧ Binds K fd ps [] ∧ FnOk P w K mg base (L2.CX P w) k f fd ps (spI T K ps.length (E.Φ i)) ∧
    ∀ n kn perm, (i, n, kn, perm) ∈ c.kw → ∀ (s : Shared) (us ws us' : List Value), us.length = n → ws.length = kn.length → pickG (us ++ ws) perm = some us' → us'.length = ps.length ∧ BindsTo s fd ⟨us, kn.zip ws⟩ (ps.zip us')
def BltG (mg : Str → Option Value) : B → Prop
  | .gcd => mg "gcd" = some (.builtin "math.gcd")
  | .lcm => mg "lcm" = some (.builtin "math.lcm")
  | .isqrt => mg "isqrt" = some (.builtin "math.isqrt")
  | f => mg f.nm = none
structure Gk (T : Tab) (c : Cc) (E : En) (P : Program) (w : World) (K : PySem.W.Frag) (mg : Str → Option Value) (base : Heap) (k : Nat) : Prop where
  fn : ∀ i x ps, c.fs[i]? = some (x, ps) → FnG T c E P w K mg base k i x ps
  gl : ∀ j x, c.gl[j]? = some x → ∃ u v d, mg x = some u ∧ RelV v u ∧ E.G j = some d ∧ ∀ H, Fz K H v d
  bl : ∀ f ∈ c.bs, BltG mg f
  ms : ∀ x ∈ c.ms, mg x = none
  q : E.q ≤ 16777216
theorem Gk.scope {T : Tab} {c : Cc} {E : En} {P : Program} {w : World} {K : PySem.W.Frag} {mg : Str → Option Value} {base : Heap} {k : Nat} (g : Gk T c E P w K mg base k) (N : List Str) (sc : Scope) : Gk T { c with N := N, sc := sc } E P w K mg base k :=
  ⟨fun i x ps h => let ⟨a, e⟩ := g.fn i x ps h; ⟨a, e⟩, g.gl, g.bl, g.ms, g.q⟩
structure ScR (a b : Scope) : Prop where
  loc : ∀ x, a.names.lookup x = some .local → b.names.lookup x = some .local
  cel : ∀ x, a.names.lookup x = some .cell → b.names.lookup x = some .cell
  fre : ∀ x, a.names.lookup x = some .free → b.names.lookup x = some .cell ∨ b.names.lookup x = some .free
  gl : ∀ x, a.names.lookup x = some .globalImplicit → b.names.lookup x = some .globalImplicit
theorem ScR.refl (a : Scope) : ScR a a := ⟨fun _ h => h, fun _ h => h, fun _ h => .inr h, fun _ h => h⟩
theorem ScR.vis {a b : Scope} (r : ScR a b) {x : Str} (h : Vis a x) : Vis b x := by
  rcases h with h | h | h
  · exact .inl (r.loc x h)
  · exact .inr (.inl (r.cel x h))
  · rcases r.fre x h with h | h
    · exact .inr (.inl h)
    · exact .inr (.inr h)
theorem relabel_lookup {env : Env} {k : NameKind} (hk : k ≠ .free) : ∀ {names : List (Str × NameKind)} {x : Str}, names.lookup x = some k →
    (names.map fun (n, k) => if (k == NameKind.free && env.scope.kind == .function && env.kindOf n == some .cell) then (n, NameKind.cell) else (n, k)).lookup x = some k
  | [], _, h => by simp at h
  | (n, k') :: r, x, h => by
    have ih := @relabel_lookup env k hk r x
    show List.lookup x ((if (k' == NameKind.free && env.scope.kind == .function && env.kindOf n == some .cell) = true then (n, NameKind.cell) else (n, k')) :: _) = _
    cases hx : x == n with
    | true =>
      simp only [List.lookup_cons, hx] at h
      cases h
      have : (k == NameKind.free) = false := by cases k <;> first | rfl | exact absurd rfl hk
      rw [this, Bool.false_and, Bool.false_and, if_neg Bool.false_ne_true]
      simp [List.lookup_cons, hx]
    | false =>
      simp only [List.lookup_cons, hx] at h
      by_cases hc : (k' == NameKind.free && env.scope.kind == .function && env.kindOf n == some .cell) = true
      · rw [if_pos hc]; simp only [List.lookup_cons, hx]; exact ih h
      · rw [if_neg hc]; simp only [List.lookup_cons, hx]; exact ih h
theorem relabel_free {env : Env} : ∀ {names : List (Str × NameKind)} {x : Str}, names.lookup x = some .free →
    (names.map fun (n, k) => if (k == NameKind.free && env.scope.kind == .function && env.kindOf n == some .cell) then (n, NameKind.cell) else (n, k)).lookup x = some .cell ∨ (names.map fun (n, k) => if (k == NameKind.free && env.scope.kind == .function && env.kindOf n == some .cell) then (n, NameKind.cell) else (n, k)).lookup x = some .free
  | [], _, h => by simp at h
  | (n, k') :: r, x, h => by
    have ih := @relabel_free env r x
    show List.lookup x ((if (k' == NameKind.free && env.scope.kind == .function && env.kindOf n == some .cell) = true then (n, NameKind.cell) else (n, k')) :: _) = _ ∨ List.lookup x ((if (k' == NameKind.free && env.scope.kind == .function && env.kindOf n == some .cell) = true then (n, NameKind.cell) else (n, k')) :: _) = _
    cases hx : x == n with
    | true =>
      simp only [List.lookup_cons, hx] at h
      cases h
      by_cases hc : (NameKind.free == NameKind.free && env.scope.kind == .function && env.kindOf n == some .cell) = true
      · rw [if_pos hc]; simp [List.lookup_cons, hx]
      · rw [if_neg hc]; simp [List.lookup_cons, hx]
    | false =>
      simp only [List.lookup_cons, hx] at h
      by_cases hc : (k' == NameKind.free && env.scope.kind == .function && env.kindOf n == some .cell) = true
      · rw [if_pos hc]; simp only [List.lookup_cons, hx]; exact ih h
      · rw [if_neg hc]; simp only [List.lookup_cons, hx]; exact ih h
theorem ScR.relabel (scope : Scope) (env : Env) : ScR scope (relabel scope env) :=
  ⟨fun _ h => relabel_lookup (by decide) h, fun _ h => relabel_lookup (by decide) h, fun _ h => relabel_free h, fun _ h => relabel_lookup (by decide) h⟩
structure Gd (T : Tab) (c : Cc) (E : En) (X : Cx) (Wx : WX) (k : Nat) : Prop where
  gk : Gk T c E X.prog X.w X.K X.mg X.base k
  calm : X.calm = true
  N : X.N = c.N
  nd : c.N.Nodup
  sc : ScR c.sc X.env.scope
  kind : c.sc.kind = .function
  fn : ∀ x, c.sc.names.lookup x = some .cell → X.fn x = true
  tk : Takes X Wx
  room : Room k X.A
section
variable {T : Tab} {c : Cc} {E : En} {X : Cx} {Wx : WX} {k : Nat}
theorem vis_of {sc : Scope} {x : Str} (h : visB sc x = true) : Vis sc x := by
  unfold visB at h
  split at h
  · exact .inl (by assumption)
  · exact .inr (.inl (by assumption))
  · exact .inr (.inr (by assumption))
  · cases h
theorem loc_of {sc : Scope} {x : Str} (h : locB sc x = true) : Loc sc x := by
  unfold locB at h
  split at h
  · exact .inl (by assumption)
  · exact .inr (by assumption)
  · cases h
theorem Gd.gl (g : Gd T c E X Wx k) {x : Str} (h : glB c.sc x = true) : Gl X x ∧ (x == ("__debug__" : Str)) = false := by
  unfold glB at h
  split at h
  · rename_i e
    refine ⟨?_, ?_⟩
    · show X.env.scope.names.lookup x = _
      exact g.sc.gl x e
    · simpa using h
  · cases h
theorem plain_of {x : Str} (h : plainN x = true) : (x == ("__debug__" : Str)) = false ∧ (x == ("__classdict__" : Str)) = false := by
  unfold plainN at h
  simpa using h
theorem Gd.slot (g : Gd T c E X Wx k) {i : Nat} {x : Str} (h : decide (c.N[i]? = some x) = true) : X.N[i]? = some x := by
  rw [g.N]; exact of_decide_eq_true h
theorem star_cons {e : Expr} {es : List Expr} {env : Env} (h : noStar e = true) : starEach (e :: es) env = (false, eval e env) :: starEach es env := by
  cases e <;> first | rfl | cases h
theorem star_any {pos : Pos} {env : Env} : ∀ {es : List Expr}, es.all noStar = true → (backTo pos (starEach es env)).any (·.1) = false
  | [], _ => rfl
  | e :: es, h => by
    rw [List.all_cons, Bool.and_eq_true] at h
    rw [star_cons h.1]
    show (false || (backTo pos (starEach es env)).any (·.1)) = false
    rw [star_any h.2]; rfl
theorem star_all {pos : Pos} {env : Env} : ∀ {es : List Expr}, es.all noStar = true → (backTo pos (starEach es env)).all (fun x => !x.1) = true
  | [], _ => rfl
  | e :: es, h => by
    rw [List.all_cons, Bool.and_eq_true] at h
    rw [star_cons h.1]
    show (true && (backTo pos (starEach es env)).all (fun x => !x.1)) = true
    rw [star_all h.2]; rfl
theorem mA_cases {a : Ex} {c : Cc} {es : List Expr} (h : mA a c es = true) : (a = .nil ∧ es = []) ∨ ∃ x r e q, a = .cons x r ∧ es = e :: q ∧ noStar e = true ∧ mE x c e = true ∧ mA r c q = true := by
  cases es with
  | nil => cases a <;> first | exact .inl ⟨rfl, rfl⟩ | exact absurd (show false = true from h) Bool.false_ne_true
  | cons e q =>
    cases a with
    | cons x r =>
      have h' : (noStar e && mE x c e && mA r c q) = true := h
      rw [Bool.and_eq_true, Bool.and_eq_true] at h'
      exact .inr ⟨x, r, e, q, rfl, rfl, h'.1.1, h'.1.2, h'.2⟩
    | _ => exact absurd (show false = true from h) Bool.false_ne_true
theorem mA_noStar : ∀ {es : List Expr} {a : Ex} {c : Cc}, mA a c es = true → es.all noStar = true
  | [], _, _, _ => rfl
  | e :: es, a, c, h => by
    rcases mA_cases h with ⟨_, z⟩ | ⟨x, r, e', q, rfl, z, h1, _, h2⟩
    · cases z
    · cases z
      rw [List.all_cons, h1, mA_noStar h2]; rfl
end
end Pv
namespace Pv
open PySem PySem.Spec PyProof.Rows L2
section
variable {T : Tab} {X : Cx} {Wx : WX} {x y z : Expr} {pos : Pos} {fa fb fc : Sl → W → R IV} {fs : Sl → W → R (List IV)}
abbrev I_ (T : Tab) (X : Cx) (Wx : WX) (e : Expr) (f : Sl → W → R IV) : Prop := PE X e (tI T X.K Wx f)
abbrev F_ (T : Tab) (X : Cx) (Wx : WX) (e : Expr) (f : Sl → W → R IV) : Prop := PE X e (tF T X.K Wx f)
theorem sE_bin {o : Operator} (ha : I_ T X Wx x fa) (hb : I_ T X Wx y fb) : F_ T X Wx (.BinOp x o y pos) fun σ w => (fa σ w).bind fun u w1 => (fb σ w1).bind fun v w2 => binV o u v w2 := by
  refine PE.imp (pe_op (bin_ok (T := T) o) ha hb) fun σ H Q ⟨ms, iσ, w, s, q⟩ => ?_
  refine stepI s q fun u w1 ux H1 m1 g1 r1 s1 q1 => ?_
  refine stepI s1 q1 fun v w2 vx H2 m2 g2 r2 s2 q2 => ?_
  exact ⟨m2, w2, u, v, _, r1.grow g2, r2, s2.w, q2⟩
theorem sE_neg (ha : I_ T X Wx x fa) : I_ T X Wx (.UnaryOp .USub x pos) fun σ w => (fa σ w).bind fun v w1 => match v with
    | .d (.int i) => .ok (.d (.int (-i))) w1
    | _ => .no := by
  refine PE.imp (pe_un un_neg ha) fun σ H Q ⟨ms, iσ, w, s, q⟩ => ?_
  refine stepI s q fun u w1 ux H1 m1 g1 r1 s1 q1 => ?_
  split at q1
  · cases (show Fz _ _ _ _ from r1)
    exact ⟨_, rfl, endI q1 (show Fz _ _ _ _ from .int _) s1.w⟩
  · exact False.elim q1
theorem tst_step {γ δ : Type} {rel' : Rel γ δ} [RM rel'] {ms : List Addr} {H : Hp} {iσ : Sl} {σ : List (Option V)} {w : W} {f : Sl → W → R IV} {g : Bool → W → R γ} {Q : δ → Hp → Prop} {Q' : V → Hp → Prop} (s : Sim T X.K ms H iσ σ w) (h : endsR T X.K ms H (fun c d H' => Wx c d σ H') rel' Q (tst (f iσ w) g))
    (k : ∀ (b : Bool) (w1 : W) (H1 : Hp) (ms1 : List Addr), Ext H ms H1 ms1 → Sim T X.K ms1 H1 iσ σ w1 → endsR T X.K ms1 H1 (fun c d H' => Wx c d σ H') rel' Q (g b w1) → Q' (.bl b) H1) : tI T X.K Wx f σ H Q' := by
  refine stepI s h fun v w1 u H1 m1 g1 r1 s1 q1 => ?_
  cases hb : toB v with
  | none => rw [hb] at q1; exact False.elim q1
  | some b =>
  rw [hb] at q1
  unfold toB at hb
  split at hb
  · cases hb
    cases (show Fz _ _ _ _ from r1)
    exact k _ w1 H1 m1 g1 s1 q1
  · cases hb
theorem sE_not (ha : I_ T X Wx x fa) : I_ T X Wx (.UnaryOp .Not x pos) fun σ w => tst (fa σ w) fun b w1 => .ok (.d (.bool (!b))) w1 := by
  refine PE.imp (pe_not ha) fun σ H Q ⟨ms, iσ, w, s, q⟩ => ?_
  exact tst_step s q fun b w1 H1 m1 g1 s1 q1 => ⟨b, rfl, endI q1 (show Fz _ _ _ _ from .bl _) s1.w⟩
theorem sE_and {r : List Expr} (ha : I_ T X Wx x fa) (hb : I_ T X Wx (.BoolOp .And (y :: r) pos) fb) : I_ T X Wx (.BoolOp .And (x :: y :: r) pos) fun σ w => tst (fa σ w) fun c w1 => if c then fb σ w1 else .ok (.d (.bool false)) w1 := by
  refine PE.imp (pe_and ha hb) fun σ H Q ⟨ms, iσ, w, s, q⟩ => ?_
  refine tst_step s q fun b w1 H1 m1 g1 s1 q1 => ⟨b, rfl, ?_⟩
  cases b with
  | true => exact ⟨m1, iσ, w1, s1, q1⟩
  | false => exact endI q1 (show Fz _ _ _ _ from .bl _) s1.w
theorem sE_or {r : List Expr} (ha : I_ T X Wx x fa) (hb : I_ T X Wx (.BoolOp .Or (y :: r) pos) fb) : I_ T X Wx (.BoolOp .Or (x :: y :: r) pos) fun σ w => tst (fa σ w) fun c w1 => if c then .ok (.d (.bool true)) w1 else fb σ w1 := by
  refine PE.imp (pe_or ha hb) fun σ H Q ⟨ms, iσ, w, s, q⟩ => ?_
  refine tst_step s q fun b w1 H1 m1 g1 s1 q1 => ⟨b, rfl, ?_⟩
  cases b with
  | false => exact ⟨m1, iσ, w1, s1, q1⟩
  | true => exact endI q1 (show Fz _ _ _ _ from .bl _) s1.w
abbrev T_ (T : Tab) (X : Cx) (Wx : WX) (e : Expr) (f : Sl → W → R IV) : Prop := PT X e (tB (tI T X.K Wx f))
abbrev TW_ (T : Tab) (X : Cx) (Wx : WX) (e : Expr) (f : Sl → W → R IV) : Prop := PW X e (tB (tI T X.K Wx f))
theorem sT_not (ha : T_ T X Wx x fa) : T_ T X Wx (.UnaryOp .Not x pos) fun σ w => tst (fa σ w) fun b w1 => .ok (.d (.bool (!b))) w1 := by
  refine PT.imp (pt_not ha) fun σ H Q ⟨ms, iσ, w, s, q⟩ => ?_
  refine tst_step s q fun b w1 H1 m1 g1 s1 q1 => ⟨b, rfl, ?_⟩
  obtain ⟨c, e, q2⟩ := endI q1 (show Fz _ _ (.bl (!b)) _ from .bl _) s1.w
  cases e
  exact q2
theorem sT_and {r : List Expr} (ha : T_ T X Wx x fa) (hb : TW_ T X Wx (.BoolOp .And (y :: r) pos) fb) : TW_ T X Wx (.BoolOp .And (x :: y :: r) pos) fun σ w => tst (fa σ w) fun c w1 => if c then fb σ w1 else .ok (.d (.bool false)) w1 := by
  refine PW.imp (pw_and ha hb) fun σ H Q ⟨ms, iσ, w, s, q⟩ => ?_
  refine tst_step s q fun b w1 H1 m1 g1 s1 q1 => ⟨b, rfl, ?_⟩
  cases b with
  | true => exact ⟨m1, iσ, w1, s1, q1⟩
  | false =>
    obtain ⟨c, e, q2⟩ := endI q1 (show Fz _ _ (.bl false) _ from .bl _) s1.w
    cases e
    exact q2
theorem sT_or {r : List Expr} (ha : T_ T X Wx x fa) (hb : TW_ T X Wx (.BoolOp .Or (y :: r) pos) fb) : TW_ T X Wx (.BoolOp .Or (x :: y :: r) pos) fun σ w => tst (fa σ w) fun c w1 => if c then .ok (.d (.bool true)) w1 else fb σ w1 := by
  refine PW.imp (pw_or ha hb) fun σ H Q ⟨ms, iσ, w, s, q⟩ => ?_
  refine tst_step s q fun b w1 H1 m1 g1 s1 q1 => ⟨b, rfl, ?_⟩
  cases b with
  | false => exact ⟨m1, iσ, w1, s1, q1⟩
  | true =>
    obtain ⟨c, e, q2⟩ := endI q1 (show Fz _ _ (.bl true) _ from .bl _) s1.w
    cases e
    exact q2
theorem sE_ite (hc : T_ T X Wx z fc) (ha : I_ T X Wx x fa) (hb : I_ T X Wx y fb) : I_ T X Wx (.IfExp z x y pos) fun σ w => tst (fc σ w) fun k w1 => if k then fa σ w1 else fb σ w1 := by
  refine PE.imp (pe_ifExp hc ha hb) fun σ H Q ⟨ms, iσ, w, s, q⟩ => ?_
  refine tst_step s q fun b w1 H1 m1 g1 s1 q1 => ⟨b, rfl, ?_⟩
  cases b with
  | true => exact ⟨m1, iσ, w1, s1, q1⟩
  | false => exact ⟨m1, iσ, w1, s1, q1⟩
theorem sF_ite (hc : T_ T X Wx z fc) (ha : F_ T X Wx x fa) (hb : F_ T X Wx y fb) : F_ T X Wx (.IfExp z x y pos) fun σ w => tst (fc σ w) fun k w1 => if k then fa σ w1 else fb σ w1 := by
  refine PE.imp (pe_ifExp hc ha hb) fun σ H Q ⟨ms, iσ, w, s, q⟩ => ?_
  refine tst_step s q fun b w1 H1 m1 g1 s1 q1 => ⟨b, rfl, ?_⟩
  cases b with
  | true => exact ⟨m1, iσ, w1, s1, q1⟩
  | false => exact ⟨m1, iσ, w1, s1, q1⟩
theorem sE_cmp {o : CmpOp} {k : Nat} (hr : Room k X.A) (hm : behindInMarks o y = false) (ha : I_ T X Wx x fa) (hb : I_ T X Wx y fb) : I_ T X Wx (.Compare x [o] [y] pos) fun σ w => (fa σ w).bind fun u w1 => (fb σ w1).bind fun v w2 => ofO ((cmpV o w2 u v).map fun k => .d (.bool k)) w2 := by
  refine PE.imp (pe_cmpR (cmpI_ok (T := T) hr o) ha hb hm) fun σ H Q ⟨ms, iσ, w, s, q⟩ => ?_
  refine stepI s q fun u w1 ux H1 m1 g1 r1 s1 q1 => ?_
  refine stepI s1 q1 fun v w2 vx H2 m2 g2 r2 s2 q2 => ?_
  cases hc : cmpV o w2 u v with
  | none => rw [hc] at q2; exact False.elim q2
  | some b =>
  rw [hc] at q2
  exact ⟨m2, w2, u, v, b, r1.grow g2, r2, s2.w, hc, endI q2 (show Fz _ _ _ _ from .bl _) s2.w⟩
theorem sT_cmp {o : CmpOp} {k : Nat} (hr : Room k X.A) (hm : behindInMarks o y = false) (ha : I_ T X Wx x fa) (hb : I_ T X Wx y fb) : T_ T X Wx (.Compare x [o] [y] pos) fun σ w => (fa σ w).bind fun u w1 => (fb σ w1).bind fun v w2 => ofO ((cmpV o w2 u v).map fun k => .d (.bool k)) w2 := by
  refine PT.imp (pt_cmpR (cmpI_ok (T := T) hr o) ha hb hm) fun σ H Q ⟨ms, iσ, w, s, q⟩ => ?_
  refine stepI s q fun u w1 ux H1 m1 g1 r1 s1 q1 => ?_
  refine stepI s1 q1 fun v w2 vx H2 m2 g2 r2 s2 q2 => ?_
  cases hc : cmpV o w2 u v with
  | none => rw [hc] at q2; exact False.elim q2
  | some b =>
  rw [hc] at q2
  exact ⟨m2, w2, u, v, b, r1.grow g2, r2, s2.w, hc, endI q2 (show Fz _ _ _ _ from .bl _) s2.w⟩
theorem chain_step {o o' : CmpOp} {σ : List (Option V)} {H : Hp} {Q : VK} {ms : List Addr} {iσ : Sl} {w : W} (s : Sim T X.K ms H iσ σ w) (q : endsR T X.K ms H (fun c d H' => Wx c d σ H') (relI T X.K) Q ((fa iσ w).bind fun u w1 => (fb iσ w1).bind fun v w2 => (ofO (cmpV o w2 u v) w2).bind fun k w2 =>
      if k then (fc iσ w2).bind fun z w3 => ofO ((cmpV o' w3 v z).map fun k => .d (.bool k)) w3 else .ok (.d (.bool false)) w2)) :
    tChain (rCmpI T X.K o) (rCmpI T X.K o') (tI T X.K Wx fa) (tI T X.K Wx fb) (tI T X.K Wx fc) σ H Q := by
  refine stepI s q fun u w1 ux H1 m1 g1 r1 s1 q1 => ?_
  refine stepI s1 q1 fun v w2 vx H2 m2 g2 r2 s2 q2 => ?_
  cases hc : cmpV o w2 u v with
  | none => rw [hc] at q2; exact False.elim q2
  | some b =>
  rw [hc] at q2
  refine ⟨m2, w2, u, v, b, r1.grow g2, r2, s2.w, hc, b, rfl, ?_⟩
  cases b with
  | false => exact endI q2 (show Fz _ _ _ _ from .bl _) s2.w
  | true =>
    refine stepI s2 q2 fun z w3 zx H3 m3 g3 r3 s3 q3 => ?_
    cases hd : cmpV o' w3 v z with
    | none => rw [hd] at q3; exact False.elim q3
    | some b =>
    rw [hd] at q3
    exact ⟨m3, w3, v, z, b, r2.grow g3, r3, s3.w, hd, endI q3 (show Fz _ _ _ _ from .bl _) s3.w⟩
theorem sE_chain {o o' : CmpOp} {k : Nat} (hr : Room k X.A) (hm : behindInMarks o' z = false) (ha : I_ T X Wx x fa) (hb : I_ T X Wx y fb) (hc : I_ T X Wx z fc) : I_ T X Wx (.Compare x [o, o'] [y, z] pos) fun σ w => (fa σ w).bind fun u w1 => (fb σ w1).bind fun v w2 => (ofO (cmpV o w2 u v) w2).bind fun k w2 =>
      if k then (fc σ w2).bind fun z w3 => ofO ((cmpV o' w3 v z).map fun k => .d (.bool k)) w3 else .ok (.d (.bool false)) w2 :=
  PE.imp (pe_chain (cmpI_ok (T := T) hr o) (cmpI_ok (T := T) hr o') ha hb hc (show behindInMarks o' z = false from hm)) fun σ H Q ⟨ms, iσ, w, s, q⟩ => chain_step s q
theorem sT_chain {o o' : CmpOp} {k : Nat} (hr : Room k X.A) (hm : behindInMarks o' z = false) (ha : I_ T X Wx x fa) (hb : I_ T X Wx y fb) (hc : I_ T X Wx z fc) : T_ T X Wx (.Compare x [o, o'] [y, z] pos) fun σ w => (fa σ w).bind fun u w1 => (fb σ w1).bind fun v w2 => (ofO (cmpV o w2 u v) w2).bind fun k w2 =>
      if k then (fc σ w2).bind fun z w3 => ofO ((cmpV o' w3 v z).map fun k => .d (.bool k)) w3 else .ok (.d (.bool false)) w2 :=
  PT.imp (pt_chain (cmpI_ok (T := T) hr o) (cmpI_ok (T := T) hr o') ha hb hc (show behindInMarks o' z = false from hm)) fun σ H Q ⟨ms, iσ, w, s, q⟩ => chain_step s q
abbrev A_ (T : Tab) (X : Cx) (Wx : WX) (es : List Expr) (f : Sl → W → R (List IV)) : Prop := PA X es (tIA T X.K Wx f)
theorem sA_nil : A_ T X Wx [] fun _ w => .ok [] w := PA.imp pa_nil fun σ H Q ⟨ms, iσ, w, s, q⟩ => endI q .nil s.w
theorem sA_cons {es : List Expr} (hn : noStar x = true) (ha : I_ T X Wx x fa) (hr : A_ T X Wx es fs) : A_ T X Wx (x :: es) fun σ w => (fa σ w).bind fun v w1 => (fs σ w1).bind fun vs w2 => .ok (v :: vs) w2 := by
  refine PA.imp (pa_cons ha hr (star_cons hn)) fun σ H Q ⟨ms, iσ, w, s, q⟩ => ?_
  refine stepI s q fun u w1 ux H1 m1 g1 r1 s1 q1 => ?_
  refine stepA s1 q1 fun v w2 vx H2 m2 g2 r2 s2 q2 => ?_
  exact endI q2 (.cons (r1.grow g2) r2) s2.w
theorem sE_tup {es : List Expr} {n : Nat} (h : A_ T X Wx es fs) : I_ T X Wx (.Tuple es n pos) fun σ w => (fs σ w).bind fun vs w1 => match purs vs with
    | some xs => if okL xs.length then .ok (.d (.tuple xs)) w1 else .no
    | none => .no := by
  refine PE.imp (pe_tup h) fun σ H Q ⟨ms, iσ, w, s, q⟩ => ?_
  refine stepA s q fun us w1 xs H1 m1 g1 r1 s1 q1 => ?_
  cases hp : purs us with
  | none => rw [hp] at q1; exact False.elim q1
  | some ds =>
  rw [hp] at q1
  have f := purs_fz r1 hp
  dsimp only at q1
  split at q1
  · rename_i hz
    exact ⟨by rw [f.length]; exact sz_of hz, fun p hp => end_tup q1 s1.w f hp⟩
  · exact False.elim q1
theorem sF_lst {es : List Expr} (h : A_ T X Wx es fs) : F_ T X Wx (.List es pos) fun σ w => (fs σ w).bind fun vs w1 => match purs vs with
    | some xs => if okL xs.length then .ok (.d (.list xs)) w1 else .no
    | none => .no := by
  refine PE.imp (pe_lst h) fun σ H Q ⟨ms, iσ, w, s, q⟩ => ?_
  refine stepA s q fun us w1 xs H1 m1 g1 r1 s1 q1 => ?_
  cases hp : purs us with
  | none => rw [hp] at q1; exact False.elim q1
  | some ds =>
  rw [hp] at q1
  have f := purs_fz r1 hp
  dsimp only at q1
  split at q1
  · rename_i hz
    exact ⟨by rw [f.length]; exact sz_of hz, fun p hp => end_lst q1 s1.w f hp⟩
  · exact False.elim q1
theorem relE_all {T : Tab} {K : PySem.W.Frag} {ms : List Addr} {n : Nat} {H : Hp} : ∀ {vs : List IV} {xs : List V}, RelA T K ms H vs xs → vs.all (elOk n) = true → Paired (RelE K ms n H) vs xs
  | [], _, .nil, _ => .nil
  | v :: vs, _, .cons r rr, h => by
    rw [List.all_cons, Bool.and_eq_true] at h
    refine .cons ?_ (relE_all rr h.2)
    cases v with
    | d x => exact r
    | ref j => exact ⟨of_decide_eq_true h.1, r⟩
    | exc c x => exact r
theorem sE_lstm {es : List Expr} (h : A_ T X Wx es fs) : I_ T X Wx (.List es pos) fun σ w => (fs σ w).bind fun vs w1 => if okL vs.length && vs.all (elOk w1.length) then .ok (.ref w1.length) (w1 ++ [.mix vs]) else .no := by
  refine PE.imp (pe_lst h) fun σ H Q ⟨ms, iσ, w, s, q⟩ => ?_
  refine stepA s q fun us w1 xs H1 m1 g1 r1 s1 q1 => ?_
  split at q1
  · rename_i hz
    rw [Bool.and_eq_true] at hz
    refine ⟨by rw [← Paired.length r1]; exact sz_of hz.1, fun p hp => ?_⟩
    have hn : p ∉ m1 := fun z => by
      obtain ⟨u, e⟩ := s1.w.mem z
      rw [hp] at e; cases e
    have g : Ext H1 m1 (upd H1 p (.lst xs)) (m1 ++ [p]) := (Ext.new hp).cell hp
    refine q1 (.ref p) (upd H1 p (.lst xs)) (m1 ++ [p]) g ⟨p, by rw [List.getElem?_append_right (by rw [s1.w.len]; exact Nat.le_refl _), s1.w.len]; simp, rfl⟩ ((s1.w.new hp).push hn ?_)
    refine ⟨xs, upd_same, ?_⟩
    rw [s1.w.len]
    exact Paired.mapP (relE_all r1 hz.2) fun _ _ h => h.move (Grow.new hp) fun _ _ _ z => z
  · exact False.elim q1
theorem paired_at {α β : Type} {R : α → β → Prop} : ∀ {as : List α} {bs : List β} {i : Nat} {a : α}, Paired R as bs → as[i]? = some a → ∃ b, bs[i]? = some b ∧ R a b
  | [], _, _, _, _, e => by simp at e
  | x :: as, _, 0, a, .cons r _, e => by
    cases (show some x = some a from e)
    exact ⟨_, rfl, r⟩
  | x :: as, _, i + 1, a, .cons _ r, e => paired_at (as := as) (i := i) r e
theorem subm_ok {T : Tab} {X : Cx} : IxR X (rI2 T X.K fun u v w => ofO (subM w u v) w) := by
  intro value slice pins s σ H x y v u Q I rx ry h hs
  obtain ⟨ms, w, a, b, P, ra, rb, rw', h⟩ := h
  dsimp only at h
  unfold subM at h
  split at h
  · rename_i n k
    cases (show Fz _ _ _ _ from rb)
    split at h
    · rename_i vs hc
      obtain ⟨p, hp, rfl⟩ := ra
      obtain ⟨xs, he, pr⟩ := rw'.at_ n _ p hc hp
      cases hj : ixN vs.length k with
      | none => rw [hj] at h; exact False.elim h
      | some j =>
      rw [hj, Option.bind_some] at h
      cases hd : vs[j]? with
      | none => rw [hd] at h; exact False.elim h
      | some z =>
      rw [hd] at h
      obtain ⟨q, hq, fq⟩ := paired_at pr hd
      refine ix_list value slice pins s σ H _ _ v u Q I rx ry ⟨p, xs, k, q, rfl, rfl, .inl (.of he), ?_, endI h (show RelI T X.K ms H z q from ?_) rw'⟩ hs
      · unfold atI
        rw [← Paired.length pr, ← ixN_L, hj, Option.bind_some, hq]
      · cases z with
        | d x => exact fq
        | ref j => exact fq.2
        | exc c x => exact fq
    · exact False.elim h
  · exact False.elim h
theorem sE_subm (hs : PlainIx y) (ha : I_ T X Wx x fa) (hb : I_ T X Wx y fb) : I_ T X Wx (.Subscript x y pos) fun σ w => (fa σ w).bind fun u w1 => (fb σ w1).bind fun v w2 => ofO (subM w2 u v) w2 := by
  refine PE.imp (pe_ix (subm_ok (T := T)) ha hb hs) fun σ H Q ⟨ms, iσ, w, s, q⟩ => ?_
  refine stepI s q fun u w1 ux H1 m1 g1 r1 s1 q1 => ?_
  refine stepI s1 q1 fun v w2 vx H2 m2 g2 r2 s2 q2 => ?_
  exact ⟨m2, w2, u, v, _, r1.grow g2, r2, s2.w, q2⟩
theorem sE_fz (ha : I_ T X Wx x fa) : I_ T X Wx x fun σ w => (fa σ w).bind fun v w1 => frzW w1 v := by
  refine PE.imp (pe_fast ha) fun σ H Q ⟨ms, iσ, w, s, q⟩ => ?_
  refine stepI s q fun v w1 u H1 m1 g1 r1 s1 q1 => ?_
  unfold frzW at q1
  split at q1
  · exact .inr (endI q1 r1 s1.w)
  · rename_i n
    split at q1
    · rename_i ds hc
      obtain ⟨a, xs, rfl, hn, he, fz⟩ := cell_lst r1 s1.w hc
      refine .inl ⟨a, xs, rfl, he, fun o => ?_⟩
      have g : Ext H1 m1 (upd H1 a (.frz o (.lst xs))) m1 := Ext.set he trivial (List.mem_of_getElem? hn)
      exact q1 _ _ m1 g (show Fz _ _ _ _ from .lst ⟨o, upd_same⟩ (fz.grow g.toGrow)) (s1.w.set hn he trivial ⟨_, upd_same⟩)
    · exact False.elim q1
  · exact False.elim q1
theorem sE_sub (hs : PlainIx y) (ha : I_ T X Wx x fa) (hb : I_ T X Wx y fb) : I_ T X Wx (.Subscript x y pos) fun σ w => (fa σ w).bind fun u w1 => (fb σ w1).bind fun v w2 => match rd w2 u, rd w2 v with
    | some x, some y => ofO ((subD x y).map IV.d) w2
    | _, _ => .no := by
  refine PE.imp (pe_ix (sub_ok (T := T)) ha hb hs) fun σ H Q ⟨ms, iσ, w, s, q⟩ => ?_
  refine stepI s q fun u w1 ux H1 m1 g1 r1 s1 q1 => ?_
  refine stepI s1 q1 fun v w2 vx H2 m2 g2 r2 s2 q2 => ?_
  exact ⟨m2, w2, u, v, _, r1.grow g2, r2, s2.w, q2⟩
def relO : Rel (Option Int) (Option Int) := fun _ _ _ a b => a = b
instance : RM relO := ⟨fun _ h => h⟩
def tIP (T : Tab) (K : PySem.W.Frag) (Wx : WX) (f : Sl → W → R (Option Int)) : TO := fun σ H Q => ∃ ms iσ w, Sim T K ms H iσ σ w ∧ endsR T K ms H (fun c d H' => Wx c d σ H') relO Q (f iσ w)
theorem PO.imp {e : Option Expr} {t t' : TO} (h : PO X e t) (i : ∀ σ H Q, t' σ H Q → t σ H Q) : PO X e t' := ⟨fun pins s σ H Q I q => h.run pins s σ H Q I (i σ H Q q)⟩
theorem sP_none : PO X none (tIP T X.K Wx fun _ w => .ok none w) := PO.imp po_none fun σ H Q ⟨ms, iσ, w, s, q⟩ => endI q rfl s.w
theorem sP_some (ha : I_ T X Wx x fa) : PO X (some x) (tIP T X.K Wx fun σ w => (fa σ w).bind fun v w1 => match v with
    | .d (.int i) => .ok (some i) w1
    | _ => .no) := by
  refine PO.imp (po_some ha) fun σ H Q ⟨ms, iσ, w, s, q⟩ => ?_
  refine stepI s q fun u w1 ux H1 m1 g1 r1 s1 q1 => ?_
  split at q1
  · cases (show Fz _ _ _ _ from r1)
    exact ⟨_, rfl, endI q1 rfl s1.w⟩
  · exact False.elim q1
theorem stepP {γ δ : Type} {rel' : Rel γ δ} [RM rel'] {ms : List Addr} {H : Hp} {iσ : Sl} {σ : List (Option V)} {w : W} {f : Sl → W → R (Option Int)} {g : Option Int → W → R γ} {Q : δ → Hp → Prop} {Q' : Option Int → Hp → Prop} (s : Sim T X.K ms H iσ σ w) (h : endsR T X.K ms H (fun c d H' => Wx c d σ H') rel' Q ((f iσ w).bind g))
    (k : ∀ (v : Option Int) (w1 : W) (H1 : Hp) (ms1 : List Addr), Ext H ms H1 ms1 → Sim T X.K ms1 H1 iσ σ w1 → endsR T X.K ms1 H1 (fun c d H' => Wx c d σ H') rel' Q (g v w1) → Q' v H1) : tIP T X.K Wx f σ H Q' :=
  ⟨ms, iσ, w, s, h.bind fun a w1 b H1 ms1 g1 r1 w1' e => by
    have e1 : a = b := r1
    subst e1
    exact k a w1 H1 ms1 g1 (s.grow g1 w1') e⟩
theorem sF_sl {l h : Option Expr} {p2 : Pos} {fl fh : Sl → W → R (Option Int)} (ha : I_ T X Wx x fa) (hl : PO X l (tIP T X.K Wx fl)) (hh : PO X h (tIP T X.K Wx fh)) :
    F_ T X Wx (.Subscript x (.Slice l h none p2) pos) fun σ w => (fa σ w).bind fun u w1 => (fl σ w1).bind fun l w2 => (fh σ w2).bind fun h w3 => match rd w3 u with
      | some x => ofO ((slD x l h).map IV.d) w3
      | none => .no := by
  refine PE.imp (pe_slice (sl_ok (T := T)) ha hl hh) fun σ H Q ⟨ms, iσ, w, s, q⟩ => ?_
  refine stepI s q fun u w1 ux H1 m1 g1 r1 s1 q1 => ?_
  refine stepP s1 q1 fun v w2 H2 m2 g2 s2 q2 => ?_
  refine stepP s2 q2 fun v' w3 H3 m3 g3 s3 q3 => ?_
  cases hd : rd w3 u with
  | none => rw [hd] at q3; exact False.elim q3
  | some d =>
  rw [hd] at q3
  exact ⟨m3, w3, u, d, _, (r1.grow g2).grow g3, s3.w, hd, q3⟩
theorem sF_slk {l h k : Option Expr} {p2 : Pos} {fl fh fk : Sl → W → R (Option Int)} (ha : I_ T X Wx x fa) (hl : PO X l (tIP T X.K Wx fl)) (hh : PO X h (tIP T X.K Wx fh)) (hk : PO X k (tIP T X.K Wx fk)) :
    F_ T X Wx (.Subscript x (.Slice l h k p2) pos) fun σ w => (fa σ w).bind fun u w1 => (fl σ w1).bind fun l w2 => (fh σ w2).bind fun h w3 => (fk σ w3).bind fun k w4 => match rd w4 u with
      | some x => ofO ((slkD x l h k).map IV.d) w4
      | none => .no := by
  refine PE.imp (pe_sliceK (slk_ok (T := T)) ha hl hh hk) fun σ H Q ⟨ms, iσ, w, s, q⟩ => ?_
  refine stepI s q fun u w1 ux H1 m1 g1 r1 s1 q1 => ?_
  refine stepP s1 q1 fun v w2 H2 m2 g2 s2 q2 => ?_
  refine stepP s2 q2 fun v' w3 H3 m3 g3 s3 q3 => ?_
  refine stepP s3 q3 fun v'' w4 H4 m4 g4 s4 q4 => ?_
  cases hd : rd w4 u with
  | none => rw [hd] at q4; exact False.elim q4
  | some d =>
  rw [hd] at q4
  exact ⟨m4, w4, u, d, _, ((r1.grow g2).grow g3).grow g4, s4.w, hd, q4⟩
end
end Pv
namespace Pv
open PySem PySem.Spec PyProof.Rows L2
section
variable {T : Tab} {c : Cc} {E : En} {X : Cx} {Wx : WX} {k : Nat} {x y z : Expr} {pos p : Pos} {fa fb fc : Sl → W → R IV} {fs fk : Sl → W → R (List IV)}
theorem RelA.len {T : Tab} {K : PySem.W.Frag} {ms : List Addr} {H : Hp} {v : List IV} {u : List V} (h : RelA T K ms H v u) : v.length = u.length := Paired.length h
theorem pickG_len {α : Type} {vs : List α} : ∀ {p : List Nat} {us : List α}, pickG vs p = some us → us.length = p.length
  | [], _, e => by cases e; rfl
  | j :: r, us, e => by
    unfold pickG at e
    cases h1 : vs[j]? with
    | none => rw [h1] at e; cases e
    | some v =>
    rw [h1, Option.bind_some] at e
    cases h2 : pickG vs r with
    | none => rw [h2] at e; cases e
    | some ws =>
    rw [h2] at e
    cases e
    rw [List.length_cons, List.length_cons, pickG_len h2]
theorem pick_rel {α β : Type} {R : α → β → Prop} {vs : List α} {us : List β} (h : Paired R vs us) : ∀ {p : List Nat} {ws : List α}, pickG vs p = some ws → ∃ zs, pickG us p = some zs ∧ Paired R ws zs
  | [], _, e => by cases e; exact ⟨[], rfl, .nil⟩
  | j :: r, ws, e => by
    unfold pickG at e
    cases h1 : vs[j]? with
    | none => rw [h1] at e; cases e
    | some v =>
    rw [h1, Option.bind_some] at e
    cases h2 : pickG vs r with
    | none => rw [h2] at e; cases e
    | some w =>
    rw [h2] at e
    cases e
    obtain ⟨zs, q1, q2⟩ := pick_rel h h2
    have hj : ∃ u, us[j]? = some u ∧ R v u := by
      clear h2 q1 q2
      revert j us
      induction vs with
      | nil => intro us h j h1; simp at h1
      | cons a vs ih =>
        intro us h j h1
        cases h with
        | cons ra rr =>
        cases j with
        | zero =>
          have e := Option.some.inj (show some a = some v from h1)
          subst e
          exact ⟨_, rfl, ra⟩
        | succ j => exact ih rr j (show vs[j]? = some v from h1)
    obtain ⟨u, hu, ru⟩ := hj
    exact ⟨u :: zs, by unfold pickG; rw [hu, Option.bind_some, q1]; rfl, .cons ru q2⟩
theorem pick_pickG (vs : List IV) : ∀ p : List Nat, pick vs p = pickG vs p
  | [] => rfl
  | j :: r => by unfold pick pickG; rw [pick_pickG vs r]
theorem sE_call {i : Nat} {n : Str} {ps : List Str} {es : List Expr} (g : Gd T c E X Wx k) (hi : c.fs[i]? = some (n, ps)) (hg : Gl X n) (hd : (n == ("__debug__" : Str)) = false) (hn : (y :: es).all noStar = true) (ha : A_ T X Wx (y :: es) fs) :
    I_ T X Wx (.Call (.Name n p) (y :: es) [] pos) fun σ w => (fs σ w).bind fun vs w1 => E.Φ i vs w1 := by
  obtain ⟨f, fd, h1, h2, h3, h4, _⟩ := (g.gk.fn i n ps hi).ex
  rw [List.all_cons, Bool.and_eq_true] at hn
  refine PE.imp (pe_callS h4 g.room hg h1 h2 h3 (fun σ => passAt g.tk σ) ha hd (star_cons hn.1) (star_any hn.2)) fun σ H Q ⟨ms, iσ, w, s, q⟩ => ?_
  refine stepA s q fun us w1 xs H1 m1 g1 r1 s1 q1 => ?_
  have hl : xs.length = ps.length := by
    by_cases hl : us.length = ps.length
    · rw [← r1.len]; exact hl
    · rw [(g.gk.fn i n ps hi).ar us w1 hl] at q1
      exact False.elim q1
  exact ⟨hl, m1, w1, us, r1, s1.w, q1⟩
abbrev K_ (T : Tab) (X : Cx) (Wx : WX) (kws : List Keyword) (f : Sl → W → R (List IV)) : Prop := PK X kws (tIA T X.K Wx f)
theorem PK.imp {e : List Keyword} {t t' : TA} (h : PK X e t) (i : ∀ σ H Q, t' σ H Q → t σ H Q) : PK X e t' := ⟨fun pos pins s σ H Q I q => h.run pos pins s σ H Q I (i σ H Q q)⟩
theorem sK_nil : K_ T X Wx [] fun _ w => .ok [] w := PK.imp pk_nil fun σ H Q ⟨ms, iσ, w, s, q⟩ => endI q .nil s.w
theorem sK_cons {kws : List Keyword} {nm : Option Str} {kp : Pos} (ha : I_ T X Wx x fa) (hr : K_ T X Wx kws fs) : K_ T X Wx (⟨nm, x, kp⟩ :: kws) fun σ w => (fa σ w).bind fun v w1 => (fs σ w1).bind fun vs w2 => .ok (v :: vs) w2 := by
  refine PK.imp (pk_cons ha hr) fun σ H Q ⟨ms, iσ, w, s, q⟩ => ?_
  refine stepI s q fun u w1 ux H1 m1 g1 r1 s1 q1 => ?_
  refine stepA s1 q1 fun v w2 vx H2 m2 g2 r2 s2 q2 => ?_
  exact endI q2 (.cons (r1.grow g2) r2) s2.w
def named : List Keyword → Bool
  | [] => true
  | ⟨some _, _, _⟩ :: r => named r
  | ⟨none, _, _⟩ :: _ => false
theorem kw_all {env : Env} : ∀ {kws : List Keyword}, named kws = true → (backToKw pos (keywordEach kws env)).all (·.1.isSome) = true ∧ (backToKw pos (keywordEach kws env)).any (·.1.isNone) = false ∧ (backToKw pos (keywordEach kws env)).filterMap (·.1) = kwNames kws
  | [], _ => ⟨rfl, rfl, rfl⟩
  | ⟨some n, e, q⟩ :: r, h => by
    obtain ⟨h1, h2, h3⟩ := kw_all (env := env) (kws := r) h
    refine ⟨?_, ?_, ?_⟩
    · show (true && (backToKw pos (keywordEach r env)).all (·.1.isSome)) = true
      rw [h1]; rfl
    · show (false || (backToKw pos (keywordEach r env)).any (·.1.isNone)) = false
      rw [h2]; rfl
    · show n :: (backToKw pos (keywordEach r env)).filterMap (·.1) = n :: kwNames r
      rw [h3]
  | ⟨none, _, _⟩ :: _, h => by cases h
theorem kwNames_len : ∀ kws : List Keyword, (kwNames kws).length = kws.length
  | [] => rfl
  | ⟨some _, _, _⟩ :: r => by show (kwNames r).length + 1 = r.length + 1; rw [kwNames_len r]
  | ⟨none, _, _⟩ :: r => by show (kwNames r).length + 1 = r.length + 1; rw [kwNames_len r]
theorem paired_append {α β : Type} {R : α → β → Prop} : ∀ {as bs : List α} {vs zs : List β}, Paired R as vs → Paired R bs zs → Paired R (as ++ bs) (vs ++ zs)
  | _, _, _, _, .nil, s => s
  | _, _, _, _, .cons r t, s => .cons r (paired_append t s)
theorem run_kw {i : Nat} {n : Str} {ps : List Str} {perm : List Nat} {kn : List Str} {f : Addr} {fd : FuncData} {pins : List (Addr × Obj)} {σ : List (Option V)} {H : Hp} {s : Shared} {Q : VK} {us ws : List Value} {vs zs : List V} {as bs cs : List IV} {ms : List Addr} {w : W} (g : Gd T c E X Wx k) (hi : c.fs[i]? = some (n, ps))
    (F : FnOk X.prog X.w X.K X.mg X.base (L2.CX X.prog X.w) k f fd ps (spI T X.K ps.length (E.Φ i))) (hb : ∀ (s : Shared) (us ws us' : List Value), us.length = as.length → ws.length = kn.length → pickG (us ++ ws) perm = some us' → us'.length = ps.length ∧ BindsTo s fd ⟨us, kn.zip ws⟩ (ps.zip us'))
    (I : L2.Inv X pins σ H s) (r : Vals vs us) (rz : Vals zs ws) (ra : RelA T X.K ms H as vs) (rb : RelA T X.K ms H bs zs) (hkn : kn.length = bs.length) (rw' : RelW X.K ms H w) (hp : pick (as ++ bs) perm = some cs) (q : endsR T X.K ms H (fun c d H' => Wx c d σ H') (relI T X.K) Q (E.Φ i cs w)) :
    wpAny (model X.prog X.w) X.A (call (.ref f) us (kn.zip ws)) (EP X pins σ Q) X.xe s := by
  rw [pick_pickG] at hp
  obtain ⟨vs', h1, ra'⟩ := pick_rel (paired_append ra rb) hp
  obtain ⟨us', h2, rv'⟩ := pick_rel (show Paired L2.RelV (vs ++ zs) (us ++ ws) from r.append rz) h1
  have hl1 : us.length = as.length := by rw [← r.length, ra.length]
  have hl2 : ws.length = kn.length := by rw [hkn, ← rz.length, RelA.len rb]
  obtain ⟨b1, b2⟩ := hb s us ws us' hl1 hl2 h2
  have hlen : vs'.length = ps.length := by rw [show vs'.length = us'.length from Paired.length rv', b1]
  refine wpAny_call (codeAny_mono (F.run X.A X.stack s H ⟨us, kn.zip ws⟩ us' vs' Q (WE Wx σ) g.room I.env0 b2 rv' ⟨hlen, ms, w, cs, ra', rw', q⟩) fun r s' hq => ?_)
  cases r with
  | error e => exact passAt g.tk σ pins H s e s' I hq
  | ok fl =>
    cases fl with
    | ret u => exact I.after hq
    | next => exact False.elim hq
    | brk => exact False.elim hq
    | cont => exact False.elim hq
theorem stepAe {γ δ : Type} {rel' : Rel γ δ} [RM rel'] {ms : List Addr} {H : Hp} {iσ : Sl} {σ : List (Option V)} {w : W} {f : Sl → W → R (List IV)} {g : List IV → W → R γ} {Q : δ → Hp → Prop} {Q' : List V → Hp → Prop} (s : Sim T X.K ms H iσ σ w) (h : endsR T X.K ms H (fun c d H' => Wx c d σ H') rel' Q ((f iσ w).bind g))
    (k : ∀ (v : List IV) (w1 : W) (u : List V) (H1 : Hp) (ms1 : List Addr), f iσ w = .ok v w1 → Ext H ms H1 ms1 → RelA T X.K ms1 H1 v u → Sim T X.K ms1 H1 iσ σ w1 → endsR T X.K ms1 H1 (fun c d H' => Wx c d σ H') rel' Q (g v w1) → Q' u H1) : tIA T X.K Wx f σ H Q' := by
  refine ⟨ms, iσ, w, s, ?_⟩
  cases hf : f iσ w with
  | no => rw [hf] at h; exact h
  | exc c x w1 => rw [hf] at h; exact h
  | ok v w1 =>
    rw [hf] at h
    exact fun u H1 ms1 g1 r1 w1' => k v w1 u H1 ms1 hf g1 r1 (s.grow g1 w1') (endsR.grow g1 h)
theorem sE_callk1 {i : Nat} {n : Str} {ps : List Str} {e : Expr} {es : List Expr} {kws : List Keyword} {perm : List Nat} (g : Gd T c E X Wx k) (hi : c.fs[i]? = some (n, ps)) (hg : Gl X n) (hd : (n == ("__debug__" : Str)) = false) (hn : (e :: es).all noStar = true) (hk : named kws = true)
    (hkw : (i, (e :: es).length, kwNames kws, perm) ∈ c.kw) (ha : A_ T X Wx (e :: es) fs) (hb : K_ T X Wx kws fk) (la : ∀ σ w vs w', fs σ w = .ok vs w' → vs.length = (e :: es).length) (lb : ∀ σ w vs w', fk σ w = .ok vs w' → vs.length = kws.length) :
    I_ T X Wx (.Call (.Name n p) (e :: es) kws pos) fun σ w => (fs σ w).bind fun vs w1 => (fk σ w1).bind fun zs w2 => match pick (vs ++ zs) perm with
      | some us => E.Φ i us w2
      | none => .no := by
  obtain ⟨f, fd, h1, h2, h3, h4, h5⟩ := (g.gk.fn i n ps hi).ex
  obtain ⟨q1, q2, q3⟩ := kw_all (pos := pos) (env := X.env) hk
  refine ⟨fun pins s σ H Q I h => ?_⟩
  obtain ⟨ms, iσ, w, sm, q⟩ := h
  refine wpAny_Call_Name_kw (ld_glob I hg h1 ?_ hd)
  have hn' := hn
  rw [List.all_cons, Bool.and_eq_true] at hn'
  refine PySem.W.callWith_KW (h₀ := X.base) I.ok.mod.kin h2 q1 (thn (ha.run pos pins s σ H (fun vs H1 => ∃ as m1 w1, as.length = (e :: es).length ∧ RelA T X.K m1 H1 as vs ∧ Sim T X.K m1 H1 iσ σ w1 ∧ endsR T X.K m1 H1 (fun c d H' => Wx c d σ H') (relI T X.K) Q ((fk iσ w1).bind fun zs w2 => match pick (as ++ zs) perm with
      | some us => E.Φ i us w2
      | none => .no)) I (stepAe sm q fun as w1 vs H1 m1 ef g1 r1 s1 q1 => ⟨as, m1, w1, la _ _ _ _ ef, r1, s1, q1⟩)) fun us s1 ⟨vs, H1, I1, rv, as, m1, w1, l1, ra, sm1, qq⟩ => ?_) (by rw [Bool.or_eq_false_iff]; exact ⟨star_any hn, q2⟩) (star_cons hn'.1)
  refine thn (hb.run pos pins s1 σ H1 (fun zs H2 => ∃ bs m2 w2, bs.length = kws.length ∧ RelA T X.K m2 H2 as vs ∧ RelA T X.K m2 H2 bs zs ∧ RelW X.K m2 H2 w2 ∧ endsR T X.K m2 H2 (fun c d H' => Wx c d σ H') (relI T X.K) Q (match pick (as ++ bs) perm with
      | some us => E.Φ i us w2
      | none => .no)) I1 (stepAe sm1 qq fun bs w2 zs H2 m2 ef g2 r2 s2 q2 => ⟨bs, m2, w2, lb _ _ _ _ ef, ra.grow g2, r2, s2.w, q2⟩)) fun ws s2 ⟨zs, H2, I2, rz, bs, m2, w2, l2, ra2, rb2, rw2, q4⟩ => ⟨I2.kIn, ?_⟩
  rw [q3]
  cases hp : pick (as ++ bs) perm with
  | none => rw [hp] at q4; exact False.elim q4
  | some cs =>
  rw [hp] at q4
  exact run_kw g hi h4 (fun s us ws us' e1 e2 e3 => h5 _ (kwNames kws) perm hkw s us ws us' (by rw [e1, l1]) e2 e3) I2 rv rz ra2 rb2 (by rw [kwNames_len, l2]) rw2 hp q4
theorem sE_callk0 {i : Nat} {n : Str} {ps : List Str} {kws : List Keyword} {perm : List Nat} (g : Gd T c E X Wx k) (hi : c.fs[i]? = some (n, ps)) (hg : Gl X n) (hd : (n == ("__debug__" : Str)) = false) (hk : named kws = true)
    (hkw : (i, 0, kwNames kws, perm) ∈ c.kw) (hb : K_ T X Wx kws fk) (lb : ∀ σ w vs w', fk σ w = .ok vs w' → vs.length = kws.length) :
    I_ T X Wx (.Call (.Name n p) [] kws pos) fun σ w => (fk σ w).bind fun zs w2 => match pick zs perm with
      | some us => E.Φ i us w2
      | none => .no := by
  obtain ⟨f, fd, h1, h2, h3, h4, h5⟩ := (g.gk.fn i n ps hi).ex
  obtain ⟨q1, q2, q3⟩ := kw_all (pos := pos) (env := X.env) hk
  refine ⟨fun pins s σ H Q I h => ?_⟩
  obtain ⟨ms, iσ, w, sm, q⟩ := h
  refine wpAny_Call_Name_kw (ld_glob I hg h1 ?_ hd)
  refine PySem.W.callWith_KW0 (h₀ := X.base) I.ok.mod.kin h2 q1 ?_ (by rw [q2]; rfl)
  refine thn (hb.run pos pins s σ H (fun zs H2 => ∃ bs m2 w2, bs.length = kws.length ∧ RelA T X.K m2 H2 bs zs ∧ RelW X.K m2 H2 w2 ∧ endsR T X.K m2 H2 (fun c d H' => Wx c d σ H') (relI T X.K) Q (match pick bs perm with
      | some us => E.Φ i us w2
      | none => .no)) I (stepAe sm q fun bs w2 zs H2 m2 ef g2 r2 s2 q2 => ⟨bs, m2, w2, lb _ _ _ _ ef, r2, s2.w, q2⟩)) fun ws s2 ⟨zs, H2, I2, rz, bs, m2, w2, l2, rb2, rw2, q4⟩ => ⟨I2.kIn, ?_⟩
  rw [q3]
  cases hp : pick bs perm with
  | none => rw [hp] at q4; exact False.elim q4
  | some cs =>
  rw [hp] at q4
  exact run_kw (as := []) g hi h4 (fun s us ws us' e1 e2 e3 => h5 _ (kwNames kws) perm hkw s us ws us' e1 e2 e3) I2 .nil rz .nil rb2 (by rw [kwNames_len, l2]) rw2 hp q4
theorem cal_boot (f : B) (h : f ≠ .gcd ∧ f ≠ .lcm ∧ f ≠ .isqrt) : bootBuiltins f.nm = some (cal f) := by
  obtain ⟨h1, h2, h3⟩ := h
  cases f <;> first | exact absurd rfl h1 | exact absurd rfl h2 | exact absurd rfl h3 | (show bootBuiltins _ = some _; decide +kernel)
theorem cal_kind (f : B) : (∃ id, cal f = .builtin id) ∨ ∃ n, cal f = .type n := by
  cases f <;> first | exact .inl ⟨_, rfl⟩ | exact .inr ⟨_, rfl⟩
theorem nm_plain (f : B) : f.nm ≠ "__name__" := by cases f <;> decide
theorem sF_blt {f : B} {n : Str} {es : List Expr} (g : Gd T c E X Wx k) (hf : f ∈ c.bs) (hnm : n = f.nm) (hg : Gl X n) (hd : (n == ("__debug__" : Str)) = false) (hn : (y :: es).all noStar = true) (ha : A_ T X Wx (y :: es) fs) :
    F_ T X Wx (.Call (.Name n p) (y :: es) [] pos) fun σ w => (fs σ w).bind fun vs w1 => bltV f vs w1 := by
  subst hnm
  have hb := g.gk.bl f hf
  have hc := blt_ok (T := T) g.calm f
  have hn' := hn
  rw [List.all_cons, Bool.and_eq_true] at hn'
  have fin : PE X (.Call (.Name f.nm p) (y :: es) [] pos) (tCB (rFA T X.K (bltV f)) (tIA T X.K Wx fs)) → F_ T X Wx (.Call (.Name f.nm p) (y :: es) [] pos) fun σ w => (fs σ w).bind fun vs w1 => bltV f vs w1 := fun h =>
    PE.imp h fun σ H Q ⟨ms, iσ, w, s, q⟩ => stepA s q fun us w1 xs H1 m1 g1 r1 s1 q1 => ⟨m1, w1, us, _, r1, s1.w, q1⟩
  refine fin ?_
  by_cases hs : f ≠ .gcd ∧ f ≠ .lcm ∧ f ≠ .isqrt
  · have hm : X.mg f.nm = none := by
      obtain ⟨h1, h2, h3⟩ := hs
      cases f <;> first | exact absurd rfl h1 | exact absurd rfl h2 | exact absurd rfl h3 | exact hb
    rcases cal_kind f with ⟨id, e⟩ | ⟨id, e⟩
    · rw [e] at hc
      exact pe_callB hc hg hm (by rw [cal_boot f hs, e]) ha (nm_plain f) hd (star_cons hn'.1) (star_any hn'.2)
    · rw [e] at hc
      exact pe_callTy hc hg hm (by rw [cal_boot f hs, e]) ha (nm_plain f) hd (star_cons hn'.1) (star_any hn'.2)
  · have : f = .gcd ∨ f = .lcm ∨ f = .isqrt := by
      by_cases a : f = .gcd
      · exact .inl a
      · by_cases b : f = .lcm
        · exact .inr (.inl b)
        · by_cases c : f = .isqrt
          · exact .inr (.inr c)
          · exact absurd ⟨a, b, c⟩ hs
    rcases this with rfl | rfl | rfl
    · exact pe_callBfun (id := "math.gcd") hc hg hb ha hd (star_cons hn'.1) (star_any hn'.2)
    · exact pe_callBfun (id := "math.lcm") hc hg hb ha hd (star_cons hn'.1) (star_any hn'.2)
    · exact pe_callBfun (id := "math.isqrt") hc hg hb ha hd (star_cons hn'.1) (star_any hn'.2)
end
end Pv
namespace Pv
open PySem PySem.Spec PyProof.Rows L2
def isLs : Option HO → Bool
  | some (.lst _) => true
  | _ => false
def lkd (H : Hp) (A : List Addr) (H' : Hp) : Prop := (∀ a, a ∉ A → H' a = H a) ∧ ∀ a ∈ A, ∃ o xs, H a = some (.lst xs) ∧ H' a = some (.frz o (.lst xs))
def unl (H : Hp) (A : List Addr) (H2 : Hp) : Hp := fun a => if a ∈ A then H a else H2 a
section
variable {X : Cx} {pins : List (Addr × Obj)} {σ : List (Option V)} {H H2 : Hp} {s : Shared}
theorem lockAll (I : L2.Inv X pins σ H s) : ∀ A : List Addr, A.Nodup → (∀ a ∈ A, ∃ xs, H a = some (.lst xs)) → ∃ H', L2.Inv X pins σ H' s ∧ lkd H A H'
  | [], _, _ => ⟨H, I, fun _ _ => rfl, fun _ h => nomatch h⟩
  | a :: A, nd, hA => by
    rw [List.nodup_cons] at nd
    obtain ⟨H', I', l1, l2⟩ := lockAll I A nd.2 fun b hb => hA b (List.mem_cons_of_mem _ hb)
    obtain ⟨xs, hx⟩ := hA a List.mem_cons_self
    obtain ⟨o, I2⟩ := Inv.freeze I' (show H' a = some (.lst xs) by rw [l1 a nd.1, hx])
    refine ⟨_, I2, fun b hb => ?_, fun b hb => ?_⟩
    · rw [upd_ne fun z => hb (by rw [z]; exact List.mem_cons_self)]
      exact l1 b fun z => hb (List.mem_cons_of_mem _ z)
    · rcases List.mem_cons.mp hb with rfl | hb'
      · exact ⟨o, xs, hx, upd_same⟩
      · obtain ⟨o2, ys, e1, e2⟩ := l2 b hb'
        exact ⟨o2, ys, e1, by rw [upd_ne fun z => nd.1 (by rw [← z]; exact hb')]; exact e2⟩
theorem unlockAll : ∀ (A : List Addr) {H2 : Hp}, L2.Inv X pins σ H2 s → A.Nodup → (∀ a ∈ A, (∃ o xs, H a = some (.lst xs) ∧ H2 a = some (.frz o (.lst xs))) ∧ ∀ o' u', X.H_0 a ≠ some (.frz o' u')) → L2.Inv X pins σ (unl H A H2) s
  | [], H2, I, _, _ => by
    have e : unl H [] H2 = H2 := by
      funext b; unfold unl; rw [if_neg (by simp)]
    rw [e]; exact I
  | a :: A, H2, I, nd, hA => by
    rw [List.nodup_cons] at nd
    obtain ⟨⟨o, xs, e1, e2⟩, hn⟩ := hA a List.mem_cons_self
    have I2 := I.unlock e2 hn
    have I3 := unlockAll A I2 nd.2 fun b hb => by
      obtain ⟨⟨o2, ys, f1, f2⟩, hb2⟩ := hA b (List.mem_cons_of_mem _ hb)
      exact ⟨⟨o2, ys, f1, by rw [upd_ne fun z => nd.1 (by rw [← z]; exact hb)]; exact f2⟩, hb2⟩
    have e : unl H A (upd H2 a (.lst xs)) = unl H (a :: A) H2 := by
      funext b
      unfold unl
      by_cases hb : b ∈ A
      · rw [if_pos hb, if_pos (List.mem_cons_of_mem _ hb)]
      · rw [if_neg hb]
        by_cases hab : b = a
        · rw [hab, upd_same, if_pos List.mem_cons_self, e1]
        · rw [upd_ne hab, if_neg fun z => by
            rcases List.mem_cons.mp z with z | z
            · exact hab z
            · exact hb z]
    rw [← e]; exact I3
end
theorem lkd.grow {H H' : Hp} {A : List Addr} (l : lkd H A H') : Grow H H' := by
  obtain ⟨l1, l2⟩ := l
  refine ⟨fun a xs e => ?_, fun a o u e => ?_⟩
  · by_cases h : a ∈ A
    · obtain ⟨_, _, e1, _⟩ := l2 a h
      rw [e1] at e; cases e
    · rw [l1 a h]; exact e
  · by_cases h : a ∈ A
    · obtain ⟨_, _, e1, _⟩ := l2 a h
      rw [e1] at e; cases e
    · rw [l1 a h]; exact e
def lsA (ms : List Addr) (H : Hp) : List Addr := ms.filter fun a => isLs (H a)
theorem lsA_mem {ms : List Addr} {H : Hp} {a : Addr} {xs : List V} (h : a ∈ ms) (e : H a = some (.lst xs)) : a ∈ lsA ms H := List.mem_filter.mpr ⟨h, by rw [e]; rfl⟩
theorem lsA_lst {ms : List Addr} {H : Hp} {a : Addr} (h : a ∈ lsA ms H) : ∃ xs, H a = some (.lst xs) := by
  have h2 := (List.mem_filter.mp h).2
  cases q : H a with
  | none => rw [q] at h2; cases h2
  | some u =>
    rw [q] at h2
    cases u with
    | lst xs => exact ⟨xs, rfl⟩
    | _ => cases h2
section
variable {T : Tab} {K : PySem.W.Frag} {ms : List Addr} {H H' : Hp} {w : W}
theorem bor_cell (r : RelW K ms H w) (l : lkd H (lsA ms H) H') {n : Nat} {a : Addr} {ds : List D} (hc : w[n]? = some (.lst ds)) (ha : ms[n]? = some a) : Fz K H' (.ref a) (.list ds) := by
  obtain ⟨xs, e, fz⟩ := r.at_ n _ a hc ha
  obtain ⟨o, ys, e1, e2⟩ := l.2 a (lsA_mem (List.mem_of_getElem? ha) e)
  rw [e] at e1
  cases e1
  exact .lst ⟨o, e2⟩ (fz.grow l.grow)
theorem bor1 (r : RelW K ms H w) (l : lkd H (lsA ms H) H') {n : Nat} : ∀ {vs : List IV} {xs : List V} {ds : List D}, Paired (RelE K ms n H) vs xs → rd1s w vs = some ds → FzAll K H' xs ds
  | [], _, _, .nil, e => by cases e; exact .nil
  | v :: vs, _, ds, .cons h p, e => by
    rw [rd1s] at e
    cases q : rd1 w v with
    | none => rw [q] at e; cases e
    | some x =>
    rw [q, Option.bind_some] at e
    cases q2 : rd1s w vs with
    | none => rw [q2] at e; cases e
    | some xs' =>
    rw [q2] at e
    cases e
    refine .cons ?_ (bor1 r l p q2)
    cases v with
    | d y => cases q; exact Fz.grow l.grow h
    | ref j =>
      obtain ⟨_, b, hb, rfl⟩ := h
      unfold rd1 at q
      dsimp only at q
      split at q
      · rename_i ys hc
        cases q
        exact bor_cell r l hc hb
      · cases q
    | exc c y => exact False.elim h
theorem bor2 (r : RelW K ms H w) (l : lkd H (lsA ms H) H') : ∀ {vs : List IV} {us : List V} {ds : List D}, RelA T K ms H vs us → rd2s w vs = some ds → RelA T K [] H' (ds.map .d) us
  | [], _, _, .nil, e => by cases e; exact .nil
  | v :: vs, _, ds, .cons h p, e => by
    rw [rd2s] at e
    cases q : rd2 w v with
    | none => rw [q] at e; cases e
    | some x =>
    rw [q, Option.bind_some] at e
    cases q2 : rd2s w vs with
    | none => rw [q2] at e; cases e
    | some xs' =>
    rw [q2] at e
    cases e
    refine .cons ?_ (bor2 r l p q2)
    show Fz K H' _ x
    cases v with
    | d y => cases q; exact Fz.grow l.grow h
    | ref n =>
      obtain ⟨a, ha, rfl⟩ := h
      unfold rd2 at q
      dsimp only at q
      split at q
      · rename_i ys hc
        cases q
        exact bor_cell r l hc ha
      · rename_i us hc
        cases q3 : rd1s w us with
        | none => rw [q3] at q; cases q
        | some ys =>
        rw [q3] at q
        cases q
        obtain ⟨xs, e1, pr⟩ := r.at_ n _ a hc ha
        obtain ⟨o, zs, f1, f2⟩ := l.2 a (lsA_mem (List.mem_of_getElem? ha) e1)
        rw [e1] at f1
        cases f1
        exact .lst ⟨o, f2⟩ (bor1 r l pr q3)
      · cases q
    | exc c y => exact False.elim h
theorem Fz.scal {v : V} {r : D} (h : Fz K H v r) (s : scal r = true) (H2 : Hp) : Fz K H2 v r := by
  cases h with
  | non => exact .non
  | bl b => exact .bl b
  | int i => exact .int i
  | str x => exact .str x
  | lst _ _ => cases s
  | tup _ _ => cases s
  | dct _ => cases s
theorem ext_unl {H2 : Hp} {m2 : List Addr} (l : lkd H (lsA ms H) H') (x : Ext H' [] H2 m2) : Ext H ms (unl H (lsA ms H) H2) ms := by
  have kp : ∀ a u, H a = some u → a ∉ lsA ms H → H2 a = some u := fun a u e hn => x.keep a u (by rw [l.1 a hn]; exact e) (fun z => nomatch z)
  have val : ∀ a u, H a = some u → unl H (lsA ms H) H2 a = some u := fun a u e => by
    unfold unl
    by_cases h : a ∈ lsA ms H
    · rw [if_pos h]; exact e
    · rw [if_neg h]; exact kp a u e h
  exact ⟨⟨fun a xs e => val a _ e, fun a o u e => val a _ e⟩, fun a u e _ => val a u e, fun a u e => ⟨u, val a u e⟩, [], by simp, fun _ h => nomatch h⟩
theorem relW_unl (r : RelW K ms H w) {H2 : Hp} {m2 : List Addr} (l : lkd H (lsA ms H) H') (x : Ext H' [] H2 m2) : RelW K ms (unl H (lsA ms H) H2) w := by
  have g := ext_unl l x
  refine r.move g.toGrow fun a ha u e => ?_
  unfold unl
  by_cases h : a ∈ lsA ms H
  · rw [if_pos h]; exact e
  · rw [if_neg h]; exact x.keep a u (by rw [l.1 a h]; exact e) (fun z => nomatch z)
end
section
variable {T : Tab} {c : Cc} {E : En} {X : Cx} {Wx : WX} {k : Nat} {x y z : Expr} {pos p : Pos} {fs : Sl → W → R (List IV)}
theorem sE_callb {i : Nat} {n : Str} {ps : List Str} {es : List Expr} (g : Gd T c E X Wx k) (hi : c.fs[i]? = some (n, ps)) (hg : Gl X n) (hd : (n == ("__debug__" : Str)) = false) (hn : (y :: es).all noStar = true) (ha : A_ T X Wx (y :: es) fs) :
    I_ T X Wx (.Call (.Name n p) (y :: es) [] pos) fun σ w => (fs σ w).bind fun vs w1 => borW E.Φ i vs w1 := by
  obtain ⟨f, fd, h1, h2, h3, h4, _⟩ := (g.gk.fn i n ps hi).ex
  rw [List.all_cons, Bool.and_eq_true] at hn
  refine ⟨fun pins s σ H Q I h => ?_⟩
  obtain ⟨ms, iσ, w, sm, q⟩ := h
  refine wpAny_Call_Name_kw (ld_glob I hg h1 ?_ hd)
  refine PySem.W.callWith_K (h₀ := X.base) I.ok.mod.kin h2 (thn (ha.run pos pins s σ H (fun xs H1 => ∃ m1 w1 us, RelA T X.K m1 H1 us xs ∧ RelW X.K m1 H1 w1 ∧ endsR T X.K m1 H1 (fun c d H' => Wx c d σ H') (relI T X.K) Q (borW E.Φ i us w1)) I (stepA sm q fun us w1 xs H1 m1 g1 r1 s1 q1 => ⟨m1, w1, us, r1, s1.w, q1⟩)) fun us' s1 ⟨xs, H1, I1, rv, m1, w1, us, r1, rw1, q1⟩ => ⟨I1.kIn, ?_⟩) (star_cons hn.1) (star_any hn.2)
  unfold borW at q1
  cases hds : rd2s w1 us with
  | none => rw [hds] at q1; exact False.elim q1
  | some ds =>
  rw [hds] at q1
  dsimp only at q1
  cases hr : E.Φ i (ds.map .d) [] with
  | no => rw [hr] at q1; exact False.elim q1
  | exc _ _ _ => rw [hr] at q1; exact False.elim q1
  | ok v w2 =>
  rw [hr] at q1
  cases v with
  | ref _ => exact False.elim q1
  | exc _ _ => exact False.elim q1
  | d r =>
  dsimp only at q1
  by_cases hs : scal r = true
  · rw [if_pos hs] at q1
    have nd : (lsA m1 H1).Nodup := rw1.nd.sublist List.filter_sublist
    obtain ⟨H', I', l⟩ := lockAll I1 (lsA m1 H1) nd fun a h => lsA_lst h
    have ra := bor2 (T := T) rw1 l r1 hds
    have hl : xs.length = ps.length := by
      by_cases hl : (ds.map IV.d).length = ps.length
      · rw [← ra.len]; exact hl
      · rw [(g.gk.fn i n ps hi).ar _ [] hl] at hr
        cases hr
    have nf : ∀ a ∈ lsA m1 H1, ∀ o' u', X.H_0 a ≠ some (.frz o' u') := fun a h => by
      obtain ⟨zs, e⟩ := lsA_lst h
      exact I1.nofrz e trivial
    refine thn (run_fnS (E := fun σ => WE Wx σ) h4 g.room h3 (passAt g.tk σ) I' rv (Q := fun u H2 => (∀ a ∈ lsA m1 H1, ∃ o zs, H1 a = some (.lst zs) ∧ H2 a = some (.frz o (.lst zs))) ∧ Q u (unl H1 (lsA m1 H1) H2)) ⟨hl, [], [], _, ra, ⟨rfl, List.nodup_nil, fun n c a h => nomatch h⟩, ?_⟩) fun v s2 ⟨u, H2, I2, r2, q2⟩ => ⟨u, _, unlockAll (lsA m1 H1) I2 nd fun a h => ⟨q2.1 a h, nf a h⟩, r2, q2.2⟩
    rw [hr]
    intro b H2 m2 x rb _
    refine ⟨fun a h => ?_, q1 b _ m1 (ext_unl l x) (Fz.scal rb hs _) (relW_unl rw1 l x)⟩
    obtain ⟨o, zs, e1, e2⟩ := l.2 a h
    exact ⟨o, zs, e1, x.frz a o _ e2⟩
  · rw [if_neg hs] at q1; exact False.elim q1
end
end Pv
namespace Pv
open PySem PySem.Spec PyProof.Rows L2
section
variable {T : Tab} {c : Cc} {E : En} {X : Cx} {Wx : WX} {k : Nat} {x y z : Expr} {pos p : Pos} {fa fb fc : Sl → W → R IV} {fs fk : Sl → W → R (List IV)}
theorem boot_ty (t : Pv.T) : bootBuiltins (Str.ofString t.nm) = some (.type t.nm) := by cases t <;> decide +kernel
theorem ty_plain (t : Pv.T) : Str.ofString t.nm ≠ "__name__" := by cases t <;> decide
theorem pe_ty {t : Pv.T} {n : Str} (hn : n = Str.ofString t.nm) (hg : Gl X n) (hm : X.mg n = none) (hd : (n == ("__debug__" : Str)) = false) : PE X (.Name n p) (tC (.ty t.nm)) := by
  subst hn
  exact pe_bltn hg hm (boot_ty t) rfl (ty_plain t) hd
theorem sE_isi1 {t : Pv.T} (hg : Gl X "isinstance") (hm : X.mg "isinstance" = none) (hn : noStar y = true) (ha : I_ T X Wx y fa) (hz : PE X z (tC (.ty t.nm))) (hzn : noStar z = true) :
    I_ T X Wx (.Call (.Name "isinstance" p) [y, z] [] pos) fun σ w => (fa σ w).bind fun v w1 => ofO ((isiV w1 [t] v).map fun k => .d (.bool k)) w1 := by
  refine PE.imp (pe_callB (isi_ok (T' := T) [t]) hg hm boot_isinstance (pa_cons ha (pa_cons hz pa_nil (star_cons hzn)) (star_cons hn)) (by decide) (by decide) (star_cons hn) (star_any (by simp [hzn]))) fun σ H Q ⟨ms, iσ, w, s, q⟩ => ?_
  refine stepI s q fun u w1 ux H1 m1 g1 r1 s1 q1 => ?_
  cases hk : isiV w1 [t] u with
  | none => rw [hk] at q1; exact False.elim q1
  | some b =>
  rw [hk] at q1
  exact ⟨m1, w1, u, b, ux, _, rfl, r1, s1.w, hk, rfl, endI q1 (show Fz _ _ _ _ from .bl _) s1.w⟩
theorem sE_isi2 {t t' : Pv.T} {ts : List Pv.T} {us : List Expr} {n : Nat} {tp : Pos} (hg : Gl X "isinstance") (hm : X.mg "isinstance" = none) (hn : noStar y = true) (ha : I_ T X Wx y fa) (hz : PA X us fun _ H Q => Q ((t :: t' :: ts).map fun t => V.ty t.nm) H) (hlen : ts.length ≤ 1000) :
    I_ T X Wx (.Call (.Name "isinstance" p) [y, .Tuple us n tp] [] pos) fun σ w => (fa σ w).bind fun v w1 => ofO ((isiV w1 (t :: t' :: ts) v).map fun k => .d (.bool k)) w1 := by
  refine PE.imp (pe_callB (isi_ok (T' := T) (t :: t' :: ts)) hg hm boot_isinstance (pa_cons ha (pa_cons (pe_tup hz) pa_nil) (star_cons hn)) (by decide) (by decide) (star_cons hn) rfl) fun σ H Q ⟨ms, iσ, w, s, q⟩ => ?_
  refine stepI s q fun u w1 ux H1 m1 g1 r1 s1 q1 => ?_
  refine ⟨by rw [sizeLine_eq, List.length_map, List.length_cons, List.length_cons]; omega, fun pp hp => ?_⟩
  cases hk : isiV w1 (t :: t' :: ts) u with
  | none => rw [hk] at q1; exact False.elim q1
  | some b =>
  rw [hk] at q1
  have g : Ext H1 m1 (upd H1 pp (.tup ((t :: t' :: ts).map fun t => V.ty t.nm))) m1 := Ext.new hp
  exact ⟨m1, w1, u, b, ux, _, rfl, r1.grow g, s1.w.new hp, hk, ⟨pp, rfl, upd_same⟩, q1 _ _ m1 g (show Fz _ _ _ _ from .bl _) (s1.w.new hp)⟩
theorem mth_slot (m : M) : Slot "list" m.nm (mthId m) ∧ typeOf (.builtin (mthId m)) = pure (.type "method_descriptor") := by
  cases m
  · exact ⟨PySem.F.slot_list_append, PySem.F.type_list_append⟩
  · exact ⟨PySem.F.slot_list_insert, PySem.F.type_list_insert⟩
  · exact ⟨PySem.F.slot_list_pop, PySem.F.type_list_pop⟩
  · exact ⟨PySem.F.slot_list_pop, PySem.F.type_list_pop⟩
  · exact ⟨PySem.F.slot_list_extend, PySem.F.type_list_extend⟩
theorem sE_mth {m : M} {o : Expr} {ap : Pos} {es : List Expr} (hb : attributeBase o m.nm X.env (eval o X.env) = eval o X.env) (ha : I_ T X Wx o fa) (hl : (ap.endLine == pos.line) = true) (hlen : es.length < 20) (hn : (y :: es).all noStar = true) (hs : A_ T X Wx (y :: es) fs) :
    I_ T X Wx (.Call (.Attribute o m.nm ap) (y :: es) [] pos) fun σ w => (fa σ w).bind fun u w1 => if isLst (rd w1 u) then (fs σ w1).bind fun vs w2 => match purs vs with
      | some xs => mthW m u xs w2
      | none => .no else .no := by
  obtain ⟨h1, h2⟩ := mth_slot m
  have hn' := hn
  rw [List.all_cons, Bool.and_eq_true] at hn'
  refine PE.imp (pe_bm PySem.F.plainAttrs_list h1 h2 (mth_ok (T' := T) m) ha hs hb (by
    rw [Bool.and_eq_true, Bool.and_eq_true]
    refine ⟨⟨star_all hn, rfl⟩, decide_eq_true ?_⟩
    show es.length + 1 + 0 + 0 < 30
    omega) hl (star_cons hn'.1) (star_any hn'.2)) fun σ H Q ⟨ms, iσ, w, s, q⟩ => ?_
  refine stepI s q fun u w1 ux H1 m1 g1 r1 s1 q1 => ?_
  split at q1
  · rename_i hc
    refine ⟨?_, ?_⟩
    · cases hd : rd w1 u with
      | none => rw [hd] at hc; cases hc
      | some d =>
      rw [hd] at hc
      cases d with
      | list ds =>
        obtain ⟨a, xs, rfl, h, _⟩ := (rd_lv r1 s1.w hd).list
        exact .inl ⟨rfl, xs, .inl h⟩
      | _ => cases hc
    · refine stepA s1 q1 fun us w2 xs H2 m2 g2 r2 s2 q2 => ?_
      cases hp : purs us with
      | none => rw [hp] at q2; exact False.elim q2
      | some ds =>
      rw [hp] at q2
      exact ⟨m2, w2, u, us, ds, _, r1.grow g2, r2, s2.w, hp, q2⟩
  · exact False.elim q1
theorem wipe_set {σ : List (Option V)} {v : Option V} : ∀ {vs : List Nat} {i : Nat}, i ∈ vs → wipe (σ.set i v) vs = wipe σ vs
  | [], _, h => nomatch h
  | j :: vs, i, h => by
    show (wipe (σ.set i v) vs).set j none = (wipe σ vs).set j none
    by_cases hi : i ∈ vs
    · rw [wipe_set hi]
    · have e : i = j := (List.mem_cons.mp h).resolve_right hi
      subst e
      have q : wipe (σ.set i v) vs = (wipe σ vs).set i v := by
        clear h
        induction vs with
        | nil => rfl
        | cons l vs ih =>
          have h1 : i ≠ l := fun z => hi (by rw [z]; exact List.mem_cons_self)
          have h2 : i ∉ vs := fun z => hi (List.mem_cons_of_mem _ z)
          show (wipe (σ.set i v) vs).set l none = ((wipe σ vs).set l none).set i v
          rw [ih h2, List.set_comm _ _ h1]
      rw [q, List.set_set]
theorem wipe_wipe (σ : List (Option V)) (vs : List Nat) : wipe (wipe σ vs) vs = wipe σ vs := by
  have h : ∀ us : List Nat, (∀ i ∈ us, i ∈ vs) → wipe (wipe σ us) vs = wipe σ vs := by
    intro us
    induction us with
    | nil => intro _; rfl
    | cons u us ih =>
      intro hu
      show wipe ((wipe σ us).set u none) vs = _
      rw [wipe_set (hu u List.mem_cons_self)]
      exact ih fun i hi => hu i (List.mem_cons_of_mem _ hi)
  exact h vs fun _ h => h
def gI (T : Tab) (K : PySem.W.Frag) (t : Tg) : TG := fun v σ H Q => ∃ ms iσ w d σ1, Sim T K ms H iσ σ w ∧ Fz K H v d ∧ asgT t d iσ = some σ1 ∧ ∀ σ', Sim T K ms H σ1 σ' w → (∀ vs, tgIn t vs = true → wipe σ' vs = wipe σ vs) → Q σ' H
def gIs (T : Tab) (K : PySem.W.Frag) (t : Tg) : TGs := fun v σ H Q => ∃ ms iσ w d σ1, Sim T K ms H iσ σ w ∧ FzAll K H v d ∧ asgTs t d iσ = some σ1 ∧ ∀ σ', Sim T K ms H σ1 σ' w → (∀ vs, tgIn t vs = true → wipe σ' vs = wipe σ vs) → Q σ' H
theorem PG.imp {e : Expr} {t t' : TG} (h : PG X e t) (i : ∀ v σ H Q, t' v σ H Q → t v σ H Q) : PG X e t' := ⟨fun pins s σ H v u Q I r q => h.run pins s σ H v u Q I r (i v σ H Q q)⟩
theorem PGs.imp {e : List Expr} {t t' : TGs} (h : PGs X e t) (i : ∀ v σ H Q, t' v σ H Q → t v σ H Q) : PGs X e t' := ⟨fun pins s σ H v u Q I r q => h.run pins s σ H v u Q I r (i v σ H Q q)⟩
def tgStar : Expr → Bool
  | .Starred _ _ => false
  | _ => true
theorem asgE_cons {e : Expr} {es : List Expr} {env : Env} (h : tgStar e = true) : assignEach (e :: es) env = (false, assign e env) :: assignEach es env := by
  cases e <;> first | rfl | cases h
theorem asgE {env : Env} : ∀ {es : List Expr}, es.all tgStar = true → (assignEach es env).length = es.length ∧ (assignEach es env).findIdx? (·.1) = none
  | [], _ => ⟨rfl, rfl⟩
  | e :: es, h => by
    rw [List.all_cons, Bool.and_eq_true] at h
    obtain ⟨h1, h2⟩ := asgE (env := env) h.2
    rw [asgE_cons h.1]
    refine ⟨by rw [List.length_cons, List.length_cons, h1], ?_⟩
    rw [List.findIdx?_cons, h2]
    rfl
theorem mT_star {t : Tg} {e : Expr} (h : mT c t e = true) : tgStar e = true := by
  cases t with
  | nm i => cases e <;> first | rfl | exact absurd (show false = true from h) Bool.false_ne_true
  | tup ts => cases e <;> first | rfl | exact absurd (show false = true from h) Bool.false_ne_true
  | _ => exact absurd (show false = true from h) Bool.false_ne_true
theorem mTs_star : ∀ {ts : Tg} {es : List Expr}, mTs c ts es = true → es.all tgStar = true
  | .nil, [], _ => rfl
  | .cons a r, e :: es, h => by
    have h' : (mT c a e && mTs c r es) = true := h
    rw [Bool.and_eq_true] at h'
    rw [List.all_cons, mT_star h'.1, mTs_star h'.2]; rfl
  | .nil, _ :: _, h => absurd (show false = true from h) Bool.false_ne_true
  | .cons _ _, [], h => absurd (show false = true from h) Bool.false_ne_true
  | .nm _, _, h => absurd (show false = true from h) Bool.false_ne_true
  | .tup _, _, h => absurd (show false = true from h) Bool.false_ne_true
structure Gs (c : Cc) (X : Cx) : Prop where
  calm : X.calm = true
  N : X.N = c.N
  nd : c.N.Nodup
  sc : ScR c.sc X.env.scope
  fn : ∀ x, c.sc.names.lookup x = some .cell → X.fn x = true
theorem Gd.gs (g : Gd T c E X Wx k) : Gs c X := ⟨g.calm, g.N, g.nd, g.sc, g.fn⟩
theorem sG_nm {i : Nat} {n : Str} (g : Gs c X) (h1 : decide (c.N[i]? = some n) = true) (h2 : locB c.sc n = true) : PG X (.Name n pos) (gName i) := by
  have l := loc_of h2
  refine pg_name (by rw [g.N]; exact g.nd) (by rw [g.N]; exact of_decide_eq_true h1) (by rcases l with l | l <;> first | exact .inl (g.sc.loc n l) | exact .inr (g.sc.cel n l)) ?_
  rcases l with l | l
  · exact .inr (g.sc.loc n l)
  · exact .inl (g.fn n l)
mutual
theorem sG (g : Gs c X) : ∀ (t : Tg) (e : Expr), mT c t e = true → PG X e (gI T X.K t)
  | .nm i, .Name n p, h => by
    have h' : (decide (c.N[i]? = some n) && locB c.sc n) = true := h
    rw [Bool.and_eq_true] at h'
    refine PG.imp (sG_nm g h'.1 h'.2) fun v σ H Q ⟨ms, iσ, w, d, σ1, s, fz, ha, q⟩ => ?_
    cases ha
    exact q _ (s.set (v := .d d) fz) fun vs hv => wipe_set (of_decide_eq_true hv)
  | .tup ts, .Tuple es kk p, h => by
    have h' : mTs c ts es = true := h
    have hs := sGs g ts es h'
    obtain ⟨e1, e2⟩ := asgE (env := X.env) (mTs_star h')
    refine PG.imp (pg_tup (n := es.length) g.calm hs e1 e2) fun v σ H Q ⟨ms, iσ, w, d, σ1, s, fz, ha, q⟩ => ?_
    cases d with
    | tuple ds =>
      obtain ⟨a, xs, rfl, h1, f1⟩ := (Lv.fz fz).tuple
      have ha' : asgTs ts ds iσ = some σ1 := ha
      refine ⟨a, xs, rfl, h1, ?_, ms, iσ, w, ds, σ1, s, f1, ha', q⟩
      rw [f1.length]
      exact asgTs_len ts es ds iσ h' ha'
    | _ => cases ha
  | .nm _, .Tuple .., h => absurd (show false = true from h) Bool.false_ne_true
  | .tup _, .Name .., h => absurd (show false = true from h) Bool.false_ne_true
  | .nil, _, h => absurd (show false = true from h) Bool.false_ne_true
  | .cons _ _, _, h => absurd (show false = true from h) Bool.false_ne_true
  | .nm _, .BoolOp .., h | .nm _, .NamedExpr .., h | .nm _, .BinOp .., h | .nm _, .UnaryOp .., h | .nm _, .Lambda .., h | .nm _, .IfExp .., h | .nm _, .Dict .., h | .nm _, .Set .., h | .nm _, .ListComp .., h | .nm _, .SetComp .., h | .nm _, .DictComp .., h | .nm _, .GeneratorExp .., h | .nm _, .Await .., h | .nm _, .Yield .., h | .nm _, .YieldFrom .., h | .nm _, .Compare .., h | .nm _, .Call .., h | .nm _, .FormattedValue .., h | .nm _, .JoinedStr .., h | .nm _, .Constant .., h | .nm _, .Attribute .., h | .nm _, .Subscript .., h | .nm _, .Starred .., h | .nm _, .List .., h | .nm _, .Slice .., h => absurd (show false = true from h) Bool.false_ne_true
  | .tup _, .BoolOp .., h | .tup _, .NamedExpr .., h | .tup _, .BinOp .., h | .tup _, .UnaryOp .., h | .tup _, .Lambda .., h | .tup _, .IfExp .., h | .tup _, .Dict .., h | .tup _, .Set .., h | .tup _, .ListComp .., h | .tup _, .SetComp .., h | .tup _, .DictComp .., h | .tup _, .GeneratorExp .., h | .tup _, .Await .., h | .tup _, .Yield .., h | .tup _, .YieldFrom .., h | .tup _, .Compare .., h | .tup _, .Call .., h | .tup _, .FormattedValue .., h | .tup _, .JoinedStr .., h | .tup _, .Constant .., h | .tup _, .Attribute .., h | .tup _, .Subscript .., h | .tup _, .Starred .., h | .tup _, .List .., h | .tup _, .Slice .., h => absurd (show false = true from h) Bool.false_ne_true
theorem sGs (g : Gs c X) : ∀ (ts : Tg) (es : List Expr), mTs c ts es = true → PGs X es (gIs T X.K ts)
  | .nil, [], _ => by
    refine PGs.imp pgs_nil fun v σ H Q ⟨ms, iσ, w, d, σ1, s, fz, ha, q⟩ => ?_
    cases d with
    | nil =>
      cases ha
      cases fz
      exact ⟨rfl, q σ s fun _ _ => rfl⟩
    | cons _ _ => cases ha
  | .cons a r, e :: es, h => by
    have h' : (mT c a e && mTs c r es) = true := h
    rw [Bool.and_eq_true] at h'
    have st : (assignEach (e :: es) X.env).map (·.2) = assign e X.env :: (assignEach es X.env).map (·.2) := by rw [asgE_cons (mT_star h'.1)]; rfl
    refine PGs.imp (pgs_cons (sG g a e h'.1) (sGs g r es h'.2) st) fun v σ H Q ⟨ms, iσ, w, d, σ1, s, fz, ha, q⟩ => ?_
    cases d with
    | nil => cases ha
    | cons d ds =>
      have ha' : ((asgT a d iσ).bind fun σ1 => asgTs r ds σ1) = some σ1 := ha
      cases e1 : asgT a d iσ with
      | none => rw [e1] at ha'; cases ha'
      | some σ2 =>
      rw [e1, Option.bind_some] at ha'
      cases fz with
      | cons f1 f2 =>
      refine ⟨_, _, rfl, ms, iσ, w, d, σ2, s, f1, e1, fun σ' s' hw => ⟨ms, σ2, w, ds, σ1, s', f2, ha', fun σ'' s'' hw' => q σ'' s'' fun vs hv => ?_⟩⟩
      have hv' : (tgIn a vs && tgIn r vs) = true := hv
      rw [Bool.and_eq_true] at hv'
      rw [hw' vs hv'.2, hw vs hv'.1]
  | .nil, _ :: _, h => absurd (show false = true from h) Bool.false_ne_true
  | .cons _ _, [], h => absurd (show false = true from h) Bool.false_ne_true
  | .nm _, _, h => absurd (show false = true from h) Bool.false_ne_true
  | .tup _, _, h => absurd (show false = true from h) Bool.false_ne_true
theorem asgTs_len : ∀ (ts : Tg) (es : List Expr) (ds : List D) (σ : Sl) {σ1 : Sl}, mTs c ts es = true → asgTs ts ds σ = some σ1 → ds.length = es.length
  | .nil, [], [], _, _, _, _ => rfl
  | .nil, [], _ :: _, _, _, _, e => by cases e
  | .cons a r, e :: es, [], _, _, _, q => by cases q
  | .cons a r, e :: es, d :: ds, σ, σ1, h, q => by
    have h' : (mT c a e && mTs c r es) = true := h
    rw [Bool.and_eq_true] at h'
    have q' : ((asgT a d σ).bind fun σ1 => asgTs r ds σ1) = some σ1 := q
    cases e1 : asgT a d σ with
    | none => rw [e1] at q'; cases q'
    | some σ2 =>
    rw [e1, Option.bind_some] at q'
    rw [List.length_cons, List.length_cons, asgTs_len r es ds σ2 h'.2 q']
  | .nil, _ :: _, _, _, _, h, _ => absurd (show false = true from h) Bool.false_ne_true
  | .cons _ _, [], _, _, _, h, _ => absurd (show false = true from h) Bool.false_ne_true
  | .nm _, _, _, _, _, h, _ => absurd (show false = true from h) Bool.false_ne_true
  | .tup _, _, _, _, _, h, _ => absurd (show false = true from h) Bool.false_ne_true
end
end
end Pv
namespace Pv
open PySem PySem.Spec PyProof.Rows L2 RZ
section
variable {T : Tab} {c : Cc} {E : En} {X : Cx} {Wx : WX} {k : Nat} {x y z tg : Expr} {pos p : Pos} {fa fb fc : Sl → W → R IV} {fs fk : Sl → W → R (List IV)}
def WalkD (K : PySem.W.Frag) (H : Hp) (xs : List D) (j : L2.It) : Prop := ∀ H', Grow H H' →
  (∀ i d, xs[i]? = some d → j.go i H' ∧ ∀ x H'', j.yld i H' x H'' → (∀ ms, Ext H' ms H'' ms) ∧ (∀ a u, H' a = some u → H'' a = some u) ∧ Fz K H'' x d) ∧ ∀ i, xs.length ≤ i → j.stop i H'
def relJ (K : PySem.W.Frag) : Rel Pv.It L2.It := fun _ ms H J j => match J with
  | .dat xs => WalkD K H xs j
  | .cel n => ∃ a, ms[n]? = some a ∧ j = Itl K a
instance {K : PySem.W.Frag} : RM (relJ K) := ⟨fun _ h => h⟩
def tII (T : Tab) (K : PySem.W.Frag) (Wx : WX) (f : Sl → W → R Pv.It) : TI := fun σ H R => ∃ ms iσ w, Sim T K ms H iσ σ w ∧ endsR T K ms H (fun c d H' => Wx c d σ H') (relJ K) R (f iσ w)
theorem PI.imp {tg e : Expr} {t t' : TI} (h : PI X tg e t) (i : ∀ σ H Q, t' σ H Q → t σ H Q) : PI X tg e t' := ⟨fun pins s σ H Q I q => h.run pins s σ H Q I (i σ H Q q)⟩
def iSeq (K : PySem.W.Frag) (tl : TE) : TI := fun σ H R => tl σ H fun x H1 => ∃ a, x = .ref a ∧ (((∃ xs, SqL K H1 a xs) ∧ R (Itl K a) H1) ∨ ((∃ xs, SqT K H1 a xs) ∧ R (Itt K a) H1))
theorem pi_seq {l : Expr} {tl : TE} (hl : PE X l tl) : PI X tg l (iSeq X.K tl) := by
  refine ⟨fun pins s σ H R I h => ?_⟩
  refine thn (hl.run pins s σ H _ I h) fun v s1 ⟨x, H1, I1, r1, a, e, q1⟩ => ?_
  subst e
  cases r1
  have far : ∀ b ∈ [s1.heap.objs.size], FpOk X pins H1 b := fun b hb => by
    have e : b = s1.heap.objs.size := by simpa using hb
    subst e
    exact I1.fpOk (Nat.le_refl _) (I1.hok.fresh (Nat.le_refl _))
  rcases q1 with ⟨⟨xs, hq⟩, q⟩ | ⟨⟨xs, hq⟩, q⟩
  · obtain ⟨its, rv, pl, hz⟩ := I1.list hq
    exact wpAny_pyIter_list pl.isList ⟨s1.heap.objs.size, [s1.heap.objs.size], _, _, H1, rfl, I1.kept (t' := s1.toks) fun b o e => Heap.get?_push_of_some _ e, turn_list a _, ⟨_, Heap.get?_push_size _ rfl, rfl, rfl⟩, far, q⟩
  · obtain ⟨its, rv, pl, hz⟩ := I1.tuple hq
    exact wpAny_pyIter_tuple (show s1.heap.IsTuple a its.toArray from pl) ⟨s1.heap.objs.size, [s1.heap.objs.size], _, _, H1, rfl, I1.kept (t' := s1.toks) fun b o e => Heap.get?_push_of_some _ e, turn_tuple a _, ⟨_, Heap.get?_push_size _ rfl, rfl, rfl⟩, far, q⟩
theorem walk_list {K : PySem.W.Frag} {H : Hp} {a : Addr} {xs : List V} {ds : List D} (h : FzL K H a xs) (f : FzAll K H xs ds) : WalkD K H ds (Itl K a) := fun H' g =>
  ⟨fun i d hd => by
    obtain ⟨v, hv, fv⟩ := f.get hd
    refine ⟨⟨xs, v, (h.grow g).sq, hv⟩, fun x H'' y => ?_⟩
    obtain ⟨rfl, y⟩ := y
    have e : v = x := Option.some.inj (hv.symm.trans (y xs (h.grow g).sq))
    subst e
    exact ⟨fun ms => Ext.refl _ _, fun _ _ e => e, fv.grow g⟩, fun i hi => ⟨xs, (h.grow g).sq, by rw [f.length]; exact hi⟩⟩
theorem walk_tup {K : PySem.W.Frag} {H : Hp} {a : Addr} {xs : List V} {ds : List D} (h : SqT K H a xs) (f : FzAll K H xs ds) : WalkD K H ds (Itt K a) := fun H' g =>
  ⟨fun i d hd => by
    obtain ⟨v, hv, fv⟩ := f.get hd
    refine ⟨⟨xs, v, SqT.grow g h, hv⟩, fun x H'' y => ?_⟩
    obtain ⟨rfl, y⟩ := y
    have e : v = x := Option.some.inj (hv.symm.trans (y xs (SqT.grow g h)))
    subst e
    exact ⟨fun ms => Ext.refl _ _, fun _ _ e => e, fv.grow g⟩, fun i hi => ⟨xs, SqT.grow g h, by rw [f.length]; exact hi⟩⟩
theorem enumD_get : ∀ {ds : List D} {k i : Nat} {d : D}, (enumD k ds)[i]? = some d → ∃ e, ds[i]? = some e ∧ d = .tuple [.int ((k + i : Nat) : Int), e]
  | [], _, _, _, h => by simp [enumD] at h
  | x :: r, k, 0, d, h => by
    have h' : some (.tuple [.int (k : Nat), x]) = some d := h
    cases h'
    exact ⟨x, rfl, rfl⟩
  | x :: r, k, i + 1, d, h => by
    obtain ⟨e, h1, h2⟩ := enumD_get (ds := r) (k := k + 1) (i := i) (d := d) h
    exact ⟨e, h1, by rw [h2, show k + 1 + i = k + (i + 1) by omega]⟩
theorem enumD_len : ∀ (ds : List D) (k : Nat), (enumD k ds).length = ds.length
  | [], _ => rfl
  | x :: r, k => by show (enumD (k + 1) r).length + 1 = r.length + 1; rw [enumD_len r]
theorem pair_new {K : PySem.W.Frag} {H : Hp} {T : Addr} {a b : V} {d e : D} (hT : H T = none) (ha : Fz K H a d) (hb : Fz K H b e) :
    (∀ ms, Ext H ms (upd H T (.tup [a, b])) ms) ∧ (∀ p u, H p = some u → upd H T (.tup [a, b]) p = some u) ∧ Fz K (upd H T (.tup [a, b])) (.ref T) (.tuple [d, e]) :=
  ⟨fun ms => Ext.new hT, fun p u q => by rw [upd_ne (ne_of_none q hT)]; exact q, .tup (.of upd_same) (.cons (ha.grow (Grow.new hT)) (.cons (hb.grow (Grow.new hT)) .nil))⟩
theorem walk_enumL {K : PySem.W.Frag} {H : Hp} {a : Addr} {xs : List V} {ds : List D} (h : FzL K H a xs) (f : FzAll K H xs ds) : WalkD K H (enumD 0 ds) (Ite K a) := fun H' g =>
  ⟨fun i d hd => by
    obtain ⟨e, he, rfl⟩ := enumD_get hd
    obtain ⟨v, hv, fv⟩ := f.get he
    refine ⟨⟨xs, v, (h.grow g).sq, hv⟩, fun x H'' y => ?_⟩
    obtain ⟨T, u, rfl, hT, rfl, y⟩ := y
    have e' : v = u := Option.some.inj (hv.symm.trans (y xs (h.grow g).sq))
    subst e'
    have q := pair_new hT (.int ((i : Nat) : Int)) (fv.grow g)
    rw [Nat.zero_add]
    exact q, fun i hi => ⟨xs, (h.grow g).sq, by rw [f.length, ← enumD_len ds 0]; exact hi⟩⟩
theorem walk_enumT {K : PySem.W.Frag} {H : Hp} {a : Addr} {xs : List V} {ds : List D} (h : SqT K H a xs) (f : FzAll K H xs ds) : WalkD K H (enumD 0 ds) (IteT K a) := fun H' g =>
  ⟨fun i d hd => by
    obtain ⟨e, he, rfl⟩ := enumD_get hd
    obtain ⟨v, hv, fv⟩ := f.get he
    refine ⟨⟨xs, v, SqT.grow g h, hv⟩, fun x H'' y => ?_⟩
    obtain ⟨T, u, rfl, hT, rfl, y⟩ := y
    have e' : v = u := Option.some.inj (hv.symm.trans (y xs (SqT.grow g h)))
    subst e'
    have q := pair_new hT (.int ((i : Nat) : Int)) (fv.grow g)
    rw [Nat.zero_add]
    exact q, fun i hi => ⟨xs, SqT.grow g h, by rw [f.length, ← enumD_len ds 0]; exact hi⟩⟩
theorem zipD_get : ∀ {ds es : List D} {i : Nat} {d : D}, (zipD ds es)[i]? = some d → ∃ a b, ds[i]? = some a ∧ es[i]? = some b ∧ d = .tuple [a, b]
  | [], _, _, _, h => by simp [zipD] at h
  | _ :: _, [], _, _, h => by simp [zipD] at h
  | x :: r, y :: q, 0, d, h => by
    have h' : some (.tuple [x, y]) = some d := h
    cases h'
    exact ⟨x, y, rfl, rfl, rfl⟩
  | x :: r, y :: q, i + 1, d, h => zipD_get (ds := r) (es := q) (i := i) (d := d) h
theorem zipD_len : ∀ (ds es : List D), (zipD ds es).length = min ds.length es.length
  | [], _ => by simp [zipD]
  | _ :: _, [] => by simp [zipD]
  | x :: r, y :: q => by
    show (zipD r q).length + 1 = min (r.length + 1) (q.length + 1)
    rw [zipD_len r q]; omega
theorem walk_zipT {K : PySem.W.Frag} {H : Hp} {a b : Addr} {xs ys : List V} {ds es : List D} (h : SqT K H a xs) (f : FzAll K H xs ds) (h' : SqT K H b ys) (f' : FzAll K H ys es) : WalkD K H (zipD ds es) (ItzT K a b) := fun H' g =>
  ⟨fun i d hd => by
    obtain ⟨d1, d2, e1, e2, rfl⟩ := zipD_get hd
    obtain ⟨v, hv, fv⟩ := f.get e1
    obtain ⟨v', hv', fv'⟩ := f'.get e2
    refine ⟨⟨xs, ys, v, v', SqT.grow g h, SqT.grow g h', hv, hv'⟩, fun x H'' y => ?_⟩
    obtain ⟨T, u, u', rfl, hT, rfl, y, y'⟩ := y
    have q1 : v = u := Option.some.inj (hv.symm.trans (y xs (SqT.grow g h)))
    have q2 : v' = u' := Option.some.inj (hv'.symm.trans (y' ys (SqT.grow g h')))
    subst q1 q2
    exact pair_new hT (fv.grow g) (fv'.grow g), fun i hi => ⟨xs, ys, SqT.grow g h, SqT.grow g h', by rw [zipD_len] at hi; rw [f.length, f'.length]; omega⟩⟩
theorem walk_zipL {K : PySem.W.Frag} {H : Hp} {a b : Addr} {xs ys : List V} {ds es : List D} (h : FzL K H a xs) (f : FzAll K H xs ds) (h' : FzL K H b ys) (f' : FzAll K H ys es) : WalkD K H (zipD ds es) (Itz K a b) := fun H' g =>
  ⟨fun i d hd => by
    obtain ⟨d1, d2, e1, e2, rfl⟩ := zipD_get hd
    obtain ⟨v, hv, fv⟩ := f.get e1
    obtain ⟨v', hv', fv'⟩ := f'.get e2
    refine ⟨⟨xs, ys, v, v', (h.grow g).sq, (h'.grow g).sq, hv, hv'⟩, fun x H'' y => ?_⟩
    obtain ⟨T, u, u', rfl, hT, rfl, y, y'⟩ := y
    have q1 : v = u := Option.some.inj (hv.symm.trans (y xs (h.grow g).sq))
    have q2 : v' = u' := Option.some.inj (hv'.symm.trans (y' ys (h'.grow g).sq))
    subst q1 q2
    exact pair_new hT (fv.grow g) (fv'.grow g), fun i hi => ⟨xs, ys, (h.grow g).sq, (h'.grow g).sq, by rw [zipD_len] at hi; rw [f.length, f'.length]; omega⟩⟩
theorem walk_rng {K : PySem.W.Frag} {H : Hp} {lo : Int} {n : Nat} {ds : List D} (h : ds = (List.range n).map fun (k : Nat) => .int (lo + k)) : WalkD K H ds (Itr lo n) := fun H' g => by
  subst h
  refine ⟨fun i d hd => ?_, fun i hi => show n ≤ i by simpa using hi⟩
  rw [List.getElem?_map] at hd
  cases hr : (List.range n)[i]? with
  | none => rw [hr] at hd; cases hd
  | some j =>
  rw [hr] at hd
  cases hd
  obtain ⟨hl, ej⟩ := List.getElem?_eq_some_iff.mp hr
  rw [List.length_range] at hl
  rw [List.getElem_range] at ej
  subst ej
  refine ⟨hl, fun x H'' y => ?_⟩
  obtain ⟨rfl, rfl⟩ := y
  exact ⟨fun ms => Ext.refl _ _, fun _ _ e => e, .int _⟩
theorem sI_seq (ha : I_ T X Wx x fa) : PI X tg x (tII T X.K Wx fun σ w => (fa σ w).bind fun v w1 => ofO (toIt w1 v) w1) := by
  refine PI.imp (pi_seq ha) fun σ H R ⟨ms, iσ, w, s, q⟩ => ?_
  refine stepI s q fun v w1 u H1 m1 g1 r1 s1 q1 => ?_
  cases v with
  | exc _ _ => exact False.elim r1
  | d d =>
    cases d with
    | list ds =>
      obtain ⟨a, xs, rfl, h, f⟩ := (show ∃ a xs, u = .ref a ∧ FzL X.K H1 a xs ∧ FzAll X.K H1 xs ds by
        cases (show Fz _ _ _ _ from r1) with
        | lst h r => exact ⟨_, _, rfl, h, r⟩)
      exact ⟨a, rfl, .inl ⟨⟨xs, h.sq⟩, endI q1 (walk_list h f) s1.w⟩⟩
    | tuple ds =>
      obtain ⟨a, xs, rfl, h, f⟩ := (Lv.fz (show Fz _ _ _ _ from r1)).tuple
      exact ⟨a, rfl, .inr ⟨⟨xs, h⟩, endI q1 (walk_tup h f) s1.w⟩⟩
    | _ => exact False.elim q1
  | ref n =>
    have q2 : endsR T X.K m1 H1 (fun c d H' => Wx c d σ H') (relJ X.K) R (ofO (match w1[n]? with
      | some (.lst _) => some (.cel n)
      | _ => none) w1) := q1
    split at q2
    · rename_i hc
      obtain ⟨a, xs, rfl, hn, he, f⟩ := cell_lst r1 s1.w hc
      exact ⟨a, rfl, .inl ⟨⟨xs, .of he⟩, endI q2 ⟨a, hn, rfl⟩ s1.w⟩⟩
    · exact False.elim q2
theorem sI_rng {n : Str} {es : List Expr} (hn : n = "range") (hg : Gl X n) (hm : X.mg n = none) (hst : (y :: es).all noStar = true) (hl : es.length ≤ 1) (ha : A_ T X Wx (y :: es) fs) (la : ∀ σ w vs w', fs σ w = .ok vs w' → vs.length = (y :: es).length) :
    PI X tg (.Call (.Name n p) (y :: es) [] pos) (tII T X.K Wx fun σ w => (fs σ w).bind fun vs w1 => match purs vs with
      | some xs => ofO ((rngD xs).map Pv.It.dat) w1
      | none => .no) := by
  subst hn
  rw [List.all_cons, Bool.and_eq_true] at hst
  cases es with
  | nil =>
    refine PI.imp (pi_range1 hg hm ha (star_cons hst.1)) fun σ H R ⟨ms, iσ, w, s, q⟩ => ?_
    refine stepAe s q fun us w1 xs H1 m1 ef g1 r1 s1 q1 => ?_
    cases hp : purs us with
    | none => rw [hp] at q1; exact False.elim q1
    | some ds =>
    rw [hp] at q1
    have f := purs_fz r1 hp
    have hlen : ds.length = 1 := by rw [← f.length, ← r1.len, la _ _ _ _ ef]; rfl
    dsimp only at q1
    unfold rngD at q1
    split at q1
    · cases f with
      | cons f1 f2 =>
      cases f2
      cases f1
      split at q1
      · rename_i hz
        simp only [Bool.and_eq_true, decide_eq_true_eq] at hz
        exact ⟨_, rfl, by omega, by omega, endI q1 (walk_rng (by apply List.map_congr_left; intro a _; rw [Int.zero_add])) s1.w⟩
      · exact False.elim q1
    · simp at hlen
    · exact False.elim q1
  | cons e es =>
    cases es with
    | cons _ _ => simp at hl
    | nil =>
    rw [List.all_cons, Bool.and_eq_true] at hst
    refine PI.imp (pi_range2 hg hm ha (by rw [star_cons hst.1, star_cons hst.2.1]; rfl) (by rw [star_cons hst.2.1]; rfl)) fun σ H R ⟨ms, iσ, w, s, q⟩ => ?_
    refine stepAe s q fun us w1 xs H1 m1 ef g1 r1 s1 q1 => ?_
    cases hp : purs us with
    | none => rw [hp] at q1; exact False.elim q1
    | some ds =>
    rw [hp] at q1
    have f := purs_fz r1 hp
    have hlen : ds.length = 2 := by rw [← f.length, ← r1.len, la _ _ _ _ ef]; rfl
    dsimp only at q1
    unfold rngD at q1
    split at q1
    · simp at hlen
    · cases f with
      | cons f1 f2 =>
      cases f2 with
      | cons f2 f3 =>
      cases f3
      cases f1
      cases f2
      split at q1
      · rename_i hz
        simp only [Bool.and_eq_true, decide_eq_true_eq] at hz
        exact ⟨_, _, rfl, ⟨by omega, by omega, by omega, by omega⟩, endI q1 (walk_rng rfl) s1.w⟩
      · exact False.elim q1
    · exact False.elim q1
theorem sI_enm {n : Str} {elts : List Expr} {kk : Nat} {tp : Pos} (hn : n = "enumerate") (hg : Gl X n) (hm : X.mg n = none) (hst : noStar y = true) (ha : I_ T X Wx y fa) :
    PI X (.Tuple elts kk tp) (.Call (.Name n p) [y] [] pos) (tII T X.K Wx fun σ w => (fa σ w).bind fun v w1 => match v with
      | .d x => ofO ((itemsD x).map fun xs => Pv.It.dat (enumD 0 xs)) w1
      | _ => .no) := by
  subst hn
  refine PI.imp (pi_enumA hg hm (pa_cons ha pa_nil (star_cons hst)) (star_cons hst)) fun σ H R ⟨ms, iσ, w, s, q⟩ => ?_
  refine stepI s q fun v w1 u H1 m1 g1 r1 s1 q1 => ?_
  cases v with
  | exc _ _ => exact False.elim q1
  | ref _ => exact False.elim q1
  | d d =>
    cases d with
    | list ds =>
      obtain ⟨a, xs, rfl, h, f⟩ := (show ∃ a xs, u = .ref a ∧ FzL X.K H1 a xs ∧ FzAll X.K H1 xs ds by
        cases (show Fz _ _ _ _ from r1) with
        | lst h r => exact ⟨_, _, rfl, h, r⟩)
      exact ⟨a, xs, rfl, .inl ⟨h.sq, endI q1 (walk_enumL h f) s1.w⟩⟩
    | tuple ds =>
      obtain ⟨a, xs, rfl, h, f⟩ := (Lv.fz (show Fz _ _ _ _ from r1)).tuple
      exact ⟨a, xs, rfl, .inr ⟨h, endI q1 (walk_enumT h f) s1.w⟩⟩
    | _ => exact False.elim q1
theorem sI_zp {n : Str} {elts : List Expr} {kk : Nat} {tp : Pos} (hn : n = "zip") (hg : Gl X n) (hm : X.mg n = none) (hst : noStar y = true) (hst2 : noStar z = true) (ha : I_ T X Wx y fa) (hb : I_ T X Wx z fb) :
    PI X (.Tuple elts kk tp) (.Call (.Name n p) [y, z] [] pos) (tII T X.K Wx fun σ w => (fa σ w).bind fun u w1 => (fb σ w1).bind fun v w2 => match u, v with
      | .d (.tuple xs), .d (.tuple ys) => .ok (.dat (zipD xs ys)) w2
      | .d (.list xs), .d (.list ys) => .ok (.dat (zipD xs ys)) w2
      | _, _ => .no) := by
  subst hn
  refine PI.imp (pi_zipA hg hm (pa_cons ha (pa_cons hb pa_nil (star_cons hst2)) (star_cons hst)) (star_cons hst) (star_any (by simp [hst2]))) fun σ H R ⟨ms, iσ, w, s, q⟩ => ?_
  refine stepI s q fun v w1 u H1 m1 g1 r1 s1 q1 => ?_
  refine stepI s1 q1 fun v' w2 u' H2 m2 g2 r2 s2 q2 => ?_
  have r1' := r1.grow g2
  split at q2
  · obtain ⟨a, xs, rfl, h, f⟩ := (Lv.fz (show Fz _ _ _ _ from r1')).tuple
    obtain ⟨b, ys, rfl, h', f'⟩ := (Lv.fz (show Fz _ _ _ _ from r2)).tuple
    exact ⟨a, b, xs, ys, rfl, .inr ⟨h, h', endI q2 (walk_zipT h f h' f') s2.w⟩⟩
  · rename_i ds es
    obtain ⟨a, xs, rfl, h, f⟩ := (show ∃ a xs, u = .ref a ∧ FzL X.K H2 a xs ∧ FzAll X.K H2 xs ds by
      cases (show Fz _ _ _ _ from r1') with
      | lst h r => exact ⟨_, _, rfl, h, r⟩)
    obtain ⟨b, ys, rfl, h', f'⟩ := (show ∃ a xs, u' = .ref a ∧ FzL X.K H2 a xs ∧ FzAll X.K H2 xs es by
      cases (show Fz _ _ _ _ from r2) with
      | lst h r => exact ⟨_, _, rfl, h, r⟩)
    exact ⟨a, b, xs, ys, rfl, .inl ⟨h.sq, h'.sq, endI q2 (walk_zipL h f h' f') s2.w⟩⟩
  · exact False.elim q2
end
end Pv
namespace Pv
open PySem PySem.Spec PyProof.Rows L2 RZ
def elF (isN : Bool) (t : Tg) (fc fe : Sl → W → R IV) (σ0 : Sl) : D → W → R (Option D) := fun x w => match asgT t x σ0 with
  | some σ1 => if isN then (fe σ1 w).bind fun v w1 => (match v with
      | .d y => .ok (some y) w1
      | _ => .no) else tst (fc σ1 w) fun b w1 => if b then (fe σ1 w1).bind fun v w2 => (match v with
      | .d y => .ok (some y) w2
      | _ => .no) else .ok none w1
  | none => .no
abbrev W0 : WX := fun _ _ _ _ => False
def ttF (T : Tab) (K : PySem.W.Frag) (isN : Bool) (fc : Sl → W → R IV) : TT := if isN then tYes else tB (tI T K W0 fc)
theorem Ext.out {H H' : Hp} {ms ms' : List Addr} (g : Ext H ms H' ms') {a : Addr} {u : HO} (h : H a = some u) (n : a ∉ ms) : H' a = some u ∧ a ∉ ms' := by
  refine ⟨g.keep a u h n, fun hm => ?_⟩
  obtain ⟨t, rfl, ht⟩ := g.px
  rcases List.mem_append.mp hm with z | z
  · exact n z
  · rw [ht a z] at h; cases h
def elQ (K : PySem.W.Frag) (D : Addr) (acc : List V) (Nx : Hp → Prop) : Option PyData → Hp → Prop
  | none, H => Nx H
  | some y, H => ∀ u, Fz K H u y → Nx (upd H D (.lst (acc ++ [u])))
section
variable {T : Tab} {K : PySem.W.Frag} {t : Tg} {fc fe : Sl → W → R IV} {σ0 : Sl} {vs : List Nat} {σ : List (Option V)} {ms : List Addr} {H : Hp} {w w1 : W} {D : Addr} {acc : List V} {Nx : Hp → Prop}
theorem el_val {σ1 : Sl} {σ2 : List (Option V)} {o : Option PyData} (s : Sim T K ms H σ1 σ2 w) (hD : H D = some (.lst acc)) (nD : D ∉ ms) (hz : acc.length < sizeLine)
    (e : ((fe σ1 w).bind fun v w1 => (match v with
      | .d y => R.ok (some y) w1
      | _ => .no)) = .ok o w1)
    (q : ∀ H' ms', Ext H ms H' ms' → RelW K ms' H' w1 → H' D = some (.lst acc) → D ∉ ms' → elQ K D acc Nx o H') :
    tI T K W0 fe σ2 H fun y H4 => ∃ acc, H4 D = some (.lst acc) ∧ acc.length < sizeLine ∧ Nx (upd H4 D (.lst (acc ++ [y]))) := by
  refine ⟨ms, σ1, w, s, ?_⟩
  cases hf : fe σ1 w with
  | no => rw [hf] at e; cases e
  | exc _ _ _ => rw [hf] at e; cases e
  | ok v w2 =>
  rw [hf] at e
  cases v with
  | d y =>
    cases e
    intro u H1 ms1 g r rw'
    obtain ⟨h1, h2⟩ := g.out hD nD
    exact ⟨acc, h1, hz, q H1 ms1 g rw' h1 h2 u r⟩
  | ref _ => cases e
  | exc _ _ => cases e
theorem el_turn {isN : Bool} {x : V} {d : PyData} {o : Option PyData} (s : Sim T K ms H σ0 (wipe σ vs) w) (fz : Fz K H x d) (htg : tgIn t vs = true) (hD : H D = some (.lst acc)) (nD : D ∉ ms) (hz : acc.length < sizeLine)
    (e : elF isN t fc fe σ0 d w = .ok o w1)
    (q : ∀ H' ms', Ext H ms H' ms' → RelW K ms' H' w1 → H' D = some (.lst acc) → D ∉ ms' → elQ K D acc Nx o H') :
    gI T K t x (wipe σ vs) H fun σ2 H2 => wipe σ2 vs = wipe σ vs ∧ ttF T K isN fc σ2 H2 fun b H3 =>
      if b = true then tI T K W0 fe σ2 H3 fun y H4 => ∃ acc, H4 D = some (.lst acc) ∧ acc.length < sizeLine ∧ Nx (upd H4 D (.lst (acc ++ [y]))) else Nx H3 := by
  unfold elF at e
  cases ha : asgT t d σ0 with
  | none => rw [ha] at e; cases e
  | some σ1 =>
  rw [ha] at e
  refine ⟨ms, σ0, w, d, σ1, s, fz, ha, fun σ' s' hw => ⟨by rw [hw vs htg, wipe_wipe], ?_⟩⟩
  cases isN with
  | true =>
    show (if true = true then tI T K W0 fe σ' H (fun y H4 => ∃ acc, H4 D = some (.lst acc) ∧ acc.length < sizeLine ∧ Nx (upd H4 D (.lst (acc ++ [y])))) else Nx H)
    rw [if_pos rfl]
    exact el_val s' hD nD hz e q
  | false =>
    have e' : tst (fc σ1 w) (fun b w1 => if b then (fe σ1 w1).bind fun v w2 => (match v with
      | .d y => R.ok (some y) w2
      | _ => .no) else .ok none w1) = .ok o w1 := e
    show tB (tI T K W0 fc) σ' H _
    refine ⟨ms, σ1, w, s', ?_⟩
    cases hf : fc σ1 w with
    | no => rw [hf] at e'; cases e'
    | exc _ _ _ => rw [hf] at e'; cases e'
    | ok v w2 =>
    rw [hf] at e'
    unfold tst at e'
    have e2 : (match toB v with
      | some b => if b then (fe σ1 w2).bind fun v w2 => (match v with
        | .d y => R.ok (some y) w2
        | _ => .no) else .ok none w2
      | none => .no) = .ok o w1 := e'
    intro u H1 ms1 g r rw'
    cases hb : toB v with
    | none => rw [hb] at e2; cases e2
    | some b =>
    rw [hb] at e2
    obtain ⟨h1, h2⟩ := g.out hD nD
    unfold toB at hb
    split at hb
    · cases hb
      cases (show Fz _ _ _ _ from r)
      refine ⟨b, rfl, ?_⟩
      cases b with
      | true =>
        rw [if_pos rfl]
        exact el_val (s'.grow g rw') h1 h2 hz e2 fun H' ms' g' r' => q H' ms' (g.trans g') r'
      | false =>
        rw [if_neg Bool.false_ne_true]
        cases e2
        exact q H1 ms1 g rw' h1 h2
    · cases hb
end
theorem lc_dat {T : Tab} {K : PySem.W.Frag} {isN : Bool} {t : Tg} {fc fe : Sl → W → R IV} {iσ : Sl} {vs : List Nat} {σ : List (Option V)} {ms : List Addr} {H1 : Hp} {w : W} {P : Value → Option Addr → Hp → Prop} {Q : VK} {xs : List PyData} {J : L2.It}
    (s : Sim T K ms H1 iσ σ w) (htg : tgIn t vs = true) (hw : WalkD K H1 xs J) (hx : okL xs.length = true)
    (h : endsR T K ms H1 P (RelF T K) Q ((compL (elF isN t fc fe (wip iσ vs)) xs w).bind fun ys w2 => .ok (.d (.list ys)) w2)) : ∀ D, H1 D = none →
    ∃ Wv : Nat → Nat → Hp → Prop, (∃ m, Wv 0 m (upd H1 D (.lst []))) ∧ ∀ i m H, Wv i m H →
      (J.stop i H ∧ Q (.ref D) H) ∨ (J.go i H ∧ ∃ Nx : Hp → Prop, (∀ H', Nx H' → ∃ m', m' < m ∧ Wv (i + 1) m' H') ∧ ∀ x H', J.yld i H x H' → gI T K t x (wipe σ vs) H' fun σ2 H2 => wipe σ2 vs = wipe σ vs ∧ ttF T K isN fc σ2 H2 fun b H3 =>
        if b = true then tI T K W0 fe σ2 H3 fun y H4 => ∃ acc, H4 D = some (.lst acc) ∧ acc.length < sizeLine ∧ Nx (upd H4 D (.lst (acc ++ [y]))) else Nx H3) := by
  intro D hD0
  let Wv : Nat → Nat → Hp → Prop := fun i m H => m + i = xs.length ∧ ∃ ms' w' acc dacc, Ext H1 ms H ms' ∧ RelW K ms' H w' ∧ H D = some (.lst acc) ∧ D ∉ ms' ∧ FzAll K H acc dacc ∧ dacc.length ≤ i ∧
    endsR T K ms H1 P (RelF T K) Q ((compL (elF isN t fc fe (wip iσ vs)) (xs.drop i) w').bind fun ys w2 => .ok (.d (.list (dacc ++ ys))) w2)
  have nD0 : D ∉ ms := fun hm => by
    obtain ⟨u, hu⟩ := s.w.mem hm
    rw [hD0] at hu; cases hu
  refine ⟨Wv, ⟨xs.length, rfl, ms, w, [], [], Ext.new hD0, s.w.new hD0, upd_same, nD0, .nil, Nat.le_refl _, h⟩, ?_⟩
  rintro i m H ⟨hm, ms', w', acc, dacc, g, rw', hD, nD, fz, hl, h'⟩
  obtain ⟨w1, w2⟩ := hw H g.toGrow
  by_cases hlt : i < xs.length
  · obtain ⟨k1, k2⟩ := w1 i xs[i] (List.getElem?_eq_getElem hlt)
    refine .inr ⟨k1, Wv (i + 1) (m - 1), fun H' p => ⟨m - 1, by omega, p⟩, fun x H' y => ?_⟩
    obtain ⟨e1, e2, e3⟩ := k2 x H' y
    have dr : xs.drop i = xs[i] :: xs.drop (i + 1) := List.drop_eq_getElem_cons hlt
    rw [dr] at h'
    cases he : elF isN t fc fe (wip iσ vs) xs[i] w' with
    | no => unfold compL at h'; rw [he] at h'; exact False.elim h'
    | exc _ _ _ => unfold compL at h'; rw [he] at h'; exact False.elim h'
    | ok o w3 =>
    unfold compL at h'; rw [he] at h'
    have gx : Ext H ms' H' ms' := e1 ms'
    have s1 : Sim T K ms' H' (wip iσ vs) (wipe σ vs) w' := ((s.grow g rw').grow gx (rw'.move gx.toGrow fun a _ u q => e2 a u q)).wipe vs
    refine el_turn s1 e3 htg (e2 D _ hD) nD ?_ he fun H4 ms4 g4 rw4 h4 n4 => ?_
    · have := of_decide_eq_true hx
      rw [fz.length, sizeLine_eq]; omega
    · have gg : Ext H1 ms H4 ms4 := g.trans (gx.trans g4)
      have h'' : endsR T K ms H1 P (RelF T K) Q (((compL (elF isN t fc fe (wip iσ vs)) (xs.drop (i + 1)) w3).bind fun ys w2 => R.ok (o.toList ++ ys) w2).bind fun ys w2 => .ok (.d (.list (dacc ++ ys))) w2) := h'
      have fz4 := fz.grow (gx.trans g4).toGrow
      cases o with
      | none =>
        show Wv (i + 1) _ H4
        refine ⟨by omega, ms4, w3, acc, dacc, gg, rw4, h4, n4, fz4, by omega, ?_⟩
        cases hc : compL (elF isN t fc fe (wip iσ vs)) (xs.drop (i + 1)) w3 with
        | no => rw [hc] at h''; exact h''
        | exc _ _ _ => rw [hc] at h''; exact h''
        | ok ys w5 => rw [hc] at h''; exact h''
      | some y =>
        show ∀ u, Fz K H4 u y → _
        intro u fu
        have gs : Grow H4 (upd H4 D (.lst (acc ++ [u]))) := Grow.set h4 trivial
        refine ⟨by omega, ms4, w3, acc ++ [u], dacc ++ [y], gg.later hD0 h4 trivial, rw4.keep h4 trivial n4, upd_same, n4, (fz4.append (.cons fu .nil)).grow gs, by simp; omega, ?_⟩
        cases hc : compL (elF isN t fc fe (wip iσ vs)) (xs.drop (i + 1)) w3 with
        | no => rw [hc] at h''; exact h''
        | exc _ _ _ => rw [hc] at h''; exact h''
        | ok ys w5 =>
          rw [hc] at h''
          show endsR T K ms H1 P (RelF T K) Q (.ok (.d (.list ((dacc ++ [y]) ++ ys))) w5)
          rw [List.append_assoc]
          exact h''
  · have dr : xs.drop i = [] := List.drop_eq_nil_of_le (by omega)
    rw [dr] at h'
    have h'' : endsR T K ms H1 P (RelF T K) Q (.ok (.d (.list (dacc ++ []))) w') := h'
    refine .inl ⟨w2 i (by omega), h'' (.ref D) H ms' g ?_ rw'⟩
    rw [List.append_nil]
    exact ⟨D, acc, rfl, hD0, nD, hD, fz⟩
theorem lc_cel {T : Tab} {K : PySem.W.Frag} {isN : Bool} {t : Tg} {fc fe : Sl → W → R IV} {iσ : Sl} {vs : List Nat} {σ : List (Option V)} {ms : List Addr} {H1 : Hp} {w : W} {P : Value → Option Addr → Hp → Prop} {Q : VK} {n q0 : Nat} {a : Addr}
    (s : Sim T K ms H1 iσ σ w) (htg : tgIn t vs = true) (hn : ms[n]? = some a) (hq : q0 ≤ 16777216)
    (h : endsR T K ms H1 P (RelF T K) Q ((compC (elF isN t fc fe (wip iσ vs)) n q0 0 w).bind fun ys w2 => .ok (.d (.list ys)) w2)) : ∀ D, H1 D = none →
    ∃ Wv : Nat → Nat → Hp → Prop, (∃ m, Wv 0 m (upd H1 D (.lst []))) ∧ ∀ i m H, Wv i m H →
      ((Itl K a).stop i H ∧ Q (.ref D) H) ∨ ((Itl K a).go i H ∧ ∃ Nx : Hp → Prop, (∀ H', Nx H' → ∃ m', m' < m ∧ Wv (i + 1) m' H') ∧ ∀ x H', (Itl K a).yld i H x H' → gI T K t x (wipe σ vs) H' fun σ2 H2 => wipe σ2 vs = wipe σ vs ∧ ttF T K isN fc σ2 H2 fun b H3 =>
        if b = true then tI T K W0 fe σ2 H3 fun y H4 => ∃ acc, H4 D = some (.lst acc) ∧ acc.length < sizeLine ∧ Nx (upd H4 D (.lst (acc ++ [y]))) else Nx H3) := by
  intro D hD0
  let Wv : Nat → Nat → Hp → Prop := fun i m H => m + i = q0 ∧ ∃ ms' w' acc dacc, Ext H1 ms H ms' ∧ RelW K ms' H w' ∧ H D = some (.lst acc) ∧ D ∉ ms' ∧ FzAll K H acc dacc ∧ dacc.length ≤ i ∧
    endsR T K ms H1 P (RelF T K) Q ((compC (elF isN t fc fe (wip iσ vs)) n m i w').bind fun ys w2 => .ok (.d (.list (dacc ++ ys))) w2)
  have nD0 : D ∉ ms := fun hm => by
    obtain ⟨u, hu⟩ := s.w.mem hm
    rw [hD0] at hu; cases hu
  refine ⟨Wv, ⟨q0, rfl, ms, w, [], [], Ext.new hD0, s.w.new hD0, upd_same, nD0, .nil, Nat.le_refl _, h⟩, ?_⟩
  rintro i m H ⟨hm, ms', w', acc, dacc, g, rw', hD, nD, fz, hl, h'⟩
  cases m with
  | zero => exact False.elim h'
  | succ m =>
  unfold compC at h'
  split at h'
  case h_2 => exact False.elim h'
  rename_i xs hc
  obtain ⟨b, hb, us, hb2, fus⟩ : ∃ b, ms'[n]? = some b ∧ ∃ us, H b = some (.lst us) ∧ FzAll K H us xs := by
    obtain ⟨b, h1, us, h2, h3⟩ := rw'.get hc
    exact ⟨b, h1, us, h2, h3⟩
  have eb : b = a := Option.some.inj (hb.symm.trans (g.get hn))
  subst eb
  cases hx : xs[i]? with
  | none =>
    rw [hx] at h'
    have h'' : endsR T K ms H1 P (RelF T K) Q (.ok (.d (.list (dacc ++ []))) w') := h'
    refine .inl ⟨⟨us, .inl (.inl hb2), by rw [fus.length]; exact List.getElem?_eq_none_iff.mp hx⟩, h'' (.ref D) H ms' g ?_ rw'⟩
    rw [List.append_nil]
    exact ⟨D, acc, rfl, hD0, nD, hD, fz⟩
  | some d =>
    rw [hx] at h'
    obtain ⟨v, hv, fv⟩ := fus.get hx
    refine .inr ⟨⟨us, v, .inl (.inl hb2), hv⟩, Wv (i + 1) m, fun H' p => ⟨m, by omega, p⟩, fun x H' y => ?_⟩
    obtain ⟨rfl, y⟩ := y
    have e : v = x := Option.some.inj (hv.symm.trans (y us (.inl (.inl hb2))))
    subst e
    dsimp only at h'
    cases he : elF isN t fc fe (wip iσ vs) d w' with
    | no => rw [he] at h'; exact False.elim h'
    | exc _ _ _ => rw [he] at h'; exact False.elim h'
    | ok o w3 =>
    rw [he] at h'
    have s1 : Sim T K ms' H' (wip iσ vs) (wipe σ vs) w' := (s.grow g rw').wipe vs
    refine el_turn s1 fv htg hD nD ?_ he fun H4 ms4 g4 rw4 h4 n4 => ?_
    · rw [fz.length, sizeLine_eq]; omega
    · have gg : Ext H1 ms H4 ms4 := g.trans g4
      have h'' : endsR T K ms H1 P (RelF T K) Q (((compC (elF isN t fc fe (wip iσ vs)) n m (i + 1) w3).bind fun ys w2 => R.ok (o.toList ++ ys) w2).bind fun ys w2 => .ok (.d (.list (dacc ++ ys))) w2) := h'
      have fz4 := fz.grow g4.toGrow
      cases o with
      | none =>
        show Wv (i + 1) _ H4
        refine ⟨by omega, ms4, w3, acc, dacc, gg, rw4, h4, n4, fz4, by omega, ?_⟩
        cases hc : compC (elF isN t fc fe (wip iσ vs)) n m (i + 1) w3 with
        | no => rw [hc] at h''; exact h''
        | exc _ _ _ => rw [hc] at h''; exact h''
        | ok ys w5 => rw [hc] at h''; exact h''
      | some y =>
        show ∀ u, Fz K H4 u y → _
        intro u fu
        have gs : Grow H4 (upd H4 D (.lst (acc ++ [u]))) := Grow.set h4 trivial
        refine ⟨by omega, ms4, w3, acc ++ [u], dacc ++ [y], gg.later hD0 h4 trivial, rw4.keep h4 trivial n4, upd_same, n4, (fz4.append (.cons fu .nil)).grow gs, by simp; omega, ?_⟩
        cases hc : compC (elF isN t fc fe (wip iσ vs)) n m (i + 1) w3 with
        | no => rw [hc] at h''; exact h''
        | exc _ _ _ => rw [hc] at h''; exact h''
        | ok ys w5 =>
          rw [hc] at h''
          show endsR T K ms H1 P (RelF T K) Q (.ok (.d (.list ((dacc ++ [y]) ++ ys))) w5)
          rw [List.append_assoc]
          exact h''
section
variable {T : Tab} {c : Cc} {E : En} {X : Cx} {Wx : WX} {k : Nat}
theorem Gd.blk (g : Gd T c E X Wx k) {scope : Scope} (hk : scope.kind = .function) (s : Shared) (H : Hp) (C : Addr) (cl : List (Str × Addr)) (fp : List Addr) : Gd T { c with sc := scope } E (X.blk s H scope (compEnvC scope cl C X.env) fp) W0 k where
  gk := g.gk.scope c.N scope
  calm := g.calm
  N := g.N
  nd := g.nd
  sc := ScR.relabel scope X.env
  kind := hk
  fn := fun x e => by
    show (scope.names.lookup x == some .cell) = true
    rw [e]; rfl
  tk := takes0
  room := g.room
theorem _root_.L2.BlkOk.rel {N : List Str} {a b scope : Scope} {own : List (Str × Nat)} (h : BlkOk N a scope own) (r : ScR a b) : BlkOk N b scope own :=
  ⟨h.kind, h.uniq, h.ix, fun y hy e => by
    rcases h.free y hy e with h | h
    · exact .inl (r.cel _ h)
    · exact r.fre _ h, h.own⟩
theorem nofold (x : Expr) (h : (match x with | .Set .. => false | _ => true) = true) (env : Env) (v : Value) : foldedSetIterable x env v = pure v := by
  cases x <;> first | rfl | cases h
theorem own_snd (N : List Str) : ∀ own : List Nat, (own.map fun (i : Nat) => (((N[i]?).getD ("" : Str)), i)).map (·.2) = own
  | [] => rfl
  | a :: r => by rw [List.map_cons, List.map_cons, own_snd N r]
theorem ttF_pts {X : Cx} {isN : Bool} {fc : Sl → W → R IV} {ifs : List Expr} (h : (isN = true ∧ ifs = []) ∨ (isN = false ∧ ∃ z, ifs = [z] ∧ T_ T X W0 z fc)) : PTs X ifs (ttF T X.K isN fc) := by
  rcases h with ⟨rfl, rfl⟩ | ⟨rfl, z, rfl, h⟩
  · exact pts_nil
  · exact pts_one h
theorem lc_read {K : PySem.W.Frag} {q0 : Nat} {own : List Nat} {t : Tg} {isN : Bool} {fi : Sl → W → R Pv.It} {fc fe : Sl → W → R IV} (hq : q0 ≤ 16777216) (htg : tgIn t own = true) {σ : L2.St} {H : Hp} {Q : VK}
    (h : tF T K Wx (fun σ w => (fi σ w).bind fun J w1 => (match J with
        | .dat xs => if okL xs.length then compL (elF isN t fc fe (wip σ own)) xs w1 else .no
        | .cel n => compC (elF isN t fc fe (wip σ own)) n q0 0 w1).bind fun ys w2 => .ok (.d (.list ys)) w2) σ H Q) : tLc (tII T K Wx fi) (gI T K t) (ttF T K isN fc) (tI T K W0 fe) own σ H Q := by
  obtain ⟨ms, iσ, w, s, q⟩ := h
  refine ⟨ms, iσ, w, s, q.bind fun J w1 j H1 m1 g1 r1 w1' q1 => ?_⟩
  have s1 := s.grow g1 w1'
  cases J with
  | dat xs =>
    by_cases hx : okL xs.length = true
    · have q2 : endsR T K m1 H1 _ (RelF T K) Q ((if okL xs.length then compL (elF isN t fc fe (wip iσ own)) xs w1 else .no).bind fun ys w2 => .ok (.d (.list ys)) w2) := q1
      rw [if_pos hx] at q2
      exact lc_dat s1 htg r1 hx q2
    · have q2 : endsR T K m1 H1 _ (RelF T K) Q ((if okL xs.length then compL (elF isN t fc fe (wip iσ own)) xs w1 else .no).bind fun ys w2 => .ok (.d (.list ys)) w2) := q1
      rw [if_neg hx] at q2
      exact False.elim q2
  | cel n =>
    obtain ⟨a, hn, rfl⟩ := r1
    exact lc_cel s1 htg hn hq q1
theorem sF_comp {own : List Nat} {t : Tg} {el tg iter : Expr} {ifs : List Expr} {scope : Scope} {pos : Pos} {isN : Bool} {fi : Sl → W → R Pv.It} {fc fe : Sl → W → R IV} (g : Gd T c E X Wx k) (hq : E.q ≤ 16777216)
    (hb : blkC c.N c.sc scope (own.map fun i => ((c.N[i]?).getD "", i)) = true) (htg : tgIn t own = true) (hf : ∀ env v, foldedSetIterable iter env v = pure v) (hi : PI X tg iter (tII T X.K Wx fi)) (hg : mT { c with sc := scope } t tg = true)
    (ht : ∀ X', Gd T { c with sc := scope } E X' W0 k → PTs X' ifs (ttF T X'.K isN fc)) (he : ∀ X', Gd T { c with sc := scope } E X' W0 k → I_ T X' W0 el fe) :
    F_ T X Wx (.ListComp el [⟨tg, iter, ifs, 0⟩] scope pos) fun σ w => (fi σ w).bind fun J w1 => (match J with
        | .dat xs => if okL xs.length then compL (elF isN t fc fe (wip σ own)) xs w1 else .no
        | .cel n => compC (elF isN t fc fe (wip σ own)) n E.q 0 w1).bind fun ys w2 => .ok (.d (.list ys)) w2 := by
  have bo := blkOk_by hb
  have hk : scope.kind = .function := bo.kind
  refine PE.imp (pe_lc (own := own.map fun i => ((c.N[i]?).getD "", i)) g.calm (by rw [g.N]; exact g.nd) hi (by rw [g.N]; exact bo.rel g.sc) (g := gI T X.K t) (fun s H C cl fp => sG (T := T) (g.blk hk s H C cl fp).gs t tg hg) (tt := ttF T X.K isN fc) (fun s H C cl fp => ht _ (g.blk hk s H C cl fp)) (te := tI T X.K W0 fe) (fun s H C cl fp => he _ (g.blk hk s H C cl fp)) (hf X.env)) fun σ H Q h => ?_
  rw [own_snd]
  exact lc_read hq htg h
theorem ps_fast {st : Stmt} {t : TS} (h : PS X st t) : PS X st fun D σ H => t { D with nx := fun σ1 H1 => (∃ a xs, H1 a = some (.lst xs) ∧ ∀ o, D.nx σ1 (upd H1 a (.frz o (.lst xs)))) ∨ D.nx σ1 H1 } σ H := by
  refine ⟨fun pins s σ H D I q => thn (h.run pins s σ H _ I q) fun f s' e => ?_⟩
  cases f with
  | next =>
    obtain ⟨σ1, H1, I1, q1⟩ := e
    rcases q1 with ⟨a, xs, ha, q1⟩ | q1
    · obtain ⟨o, I2⟩ := Inv.freeze I1 ha
      exact ⟨σ1, _, I2, q1 o⟩
    · exact ⟨σ1, H1, I1, q1⟩
  | brk => exact e
  | cont => exact e
  | ret u => exact e
end
end Pv
namespace Pv
open PySem PySem.Spec PyProof.Rows L2 RZ
theorem a2 {a b : Bool} (h : (a && b) = true) : a = true ∧ b = true := Bool.and_eq_true _ _ ▸ h
theorem no2 {p : Prop} (h : false = true) : p := absurd h Bool.false_ne_true
structure Oks (T : Tab) (E : En) (k : Nat) (u : Ex) : Prop where
  e : ∀ c X Wx x, Gd T c E X Wx k → mE u c x = true → I_ T X Wx x (ev E u)
  f : ∀ c X Wx x, Gd T c E X Wx k → mE u c x = true → fresh u = true → F_ T X Wx x (ev E u)
  t : ∀ c X Wx x, Gd T c E X Wx k → mE u c x = true → tOk u = true → T_ T X Wx x (ev E u)
  w : ∀ c X Wx o y z r p, Gd T c E X Wx k → mE u c (.BoolOp o (y :: z :: r) p) = true → tOk u = true → TW_ T X Wx (.BoolOp o (y :: z :: r) p) (ev E u)
  a : ∀ c X Wx xs, Gd T c E X Wx k → mA u c xs = true → A_ T X Wx xs (evA E u)
  kw : ∀ c X Wx xs, Gd T c E X Wx k → mK u c xs = true → K_ T X Wx xs (evA E u)
  p : ∀ c X Wx o, Gd T c E X Wx k → mP u c o = true → PO X o (tIP T X.K Wx (evP E u))
  i : ∀ c X Wx tg x, Gd T c E X Wx k → mI u c tg x = true → PI X tg x (tII T X.K Wx (evI E u))
section
variable {T : Tab} {c : Cc} {E : En} {X : Cx} {Wx : WX} {k : Nat}
theorem PT.ofW {x : Expr} {t : TT} (h : PW X x t) : PT X x t := ⟨fun pins s σ H Q I q => h.run _ pins s σ H Q I q⟩
theorem evA_len : ∀ {es : List Expr} {a : Ex} {c : Cc} {σ : Sl} {w w' : W} {vs : List IV}, mA a c es = true → evA E a σ w = .ok vs w' → vs.length = es.length
  | [], a, c, σ, w, w', vs, h, e => by
    rcases mA_cases h with ⟨rfl, _⟩ | ⟨x, r, e', q, _, z, _⟩
    · have e' : R.ok [] w = .ok vs w' := e
      cases e'; rfl
    · cases z
  | y :: es, a, c, σ, w, w', vs, h, e => by
    rcases mA_cases h with ⟨_, z⟩ | ⟨x, r, e', q, rfl, z, _, _, h2⟩
    · cases z
    · cases z
      have e1 : ((ev E x σ w).bind fun v w1 => (evA E r σ w1).bind fun vs w2 => .ok (v :: vs) w2) = .ok vs w' := e
      cases h1 : ev E x σ w with
      | no => rw [h1] at e1; cases e1
      | exc _ _ _ => rw [h1] at e1; cases e1
      | ok v w1 =>
      rw [h1] at e1
      have e2 : ((evA E r σ w1).bind fun vs w2 => R.ok (v :: vs) w2) = .ok vs w' := e1
      cases h3 : evA E r σ w1 with
      | no => rw [h3] at e2; cases e2
      | exc _ _ _ => rw [h3] at e2; cases e2
      | ok us w2 =>
      rw [h3] at e2
      have e3 : R.ok (v :: us) w2 = .ok vs w' := e2
      cases e3
      rw [List.length_cons, List.length_cons, evA_len h2 h3]
theorem mK_cases {a : Ex} {c : Cc} {es : List Keyword} (h : mK a c es = true) : (a = .nil ∧ es = []) ∨ ∃ x r n e p q, a = .cons x r ∧ es = ⟨some n, e, p⟩ :: q ∧ mE x c e = true ∧ mK r c q = true := by
  cases es with
  | nil => cases a <;> first | exact .inl ⟨rfl, rfl⟩ | exact no2 h
  | cons e q =>
    obtain ⟨n, e, p⟩ := e
    cases a with
    | cons x r =>
      cases n with
      | none => exact no2 h
      | some n =>
      obtain ⟨h1, h2⟩ := a2 (show (mE x c e && mK r c q) = true from h)
      exact .inr ⟨x, r, n, e, p, q, rfl, rfl, h1, h2⟩
    | _ => exact no2 h
theorem mK_named : ∀ {es : List Keyword} {a : Ex} {c : Cc}, mK a c es = true → named es = true
  | [], _, _, _ => rfl
  | e :: es, a, c, h => by
    rcases mK_cases h with ⟨_, z⟩ | ⟨x, r, n, e', p, q, rfl, z, _, h2⟩
    · cases z
    · cases z
      exact (mK_named h2 : named es = true)
theorem evK_len : ∀ {es : List Keyword} {a : Ex} {c : Cc} {σ : Sl} {w w' : W} {vs : List IV}, mK a c es = true → evA E a σ w = .ok vs w' → vs.length = es.length
  | [], a, c, σ, w, w', vs, h, e => by
    rcases mK_cases h with ⟨rfl, _⟩ | ⟨x, r, n, e', p, q, _, z, _⟩
    · have e' : R.ok [] w = .ok vs w' := e
      cases e'; rfl
    · cases z
  | y :: es, a, c, σ, w, w', vs, h, e => by
    rcases mK_cases h with ⟨_, z⟩ | ⟨x, r, n, e', p, q, rfl, z, _, h2⟩
    · cases z
    · cases z
      have e1 : ((ev E x σ w).bind fun v w1 => (evA E r σ w1).bind fun vs w2 => .ok (v :: vs) w2) = .ok vs w' := e
      cases h1 : ev E x σ w with
      | no => rw [h1] at e1; cases e1
      | exc _ _ _ => rw [h1] at e1; cases e1
      | ok v w1 =>
      rw [h1] at e1
      have e2 : ((evA E r σ w1).bind fun vs w2 => R.ok (v :: vs) w2) = .ok vs w' := e1
      cases h3 : evA E r σ w1 with
      | no => rw [h3] at e2; cases e2
      | exc _ _ _ => rw [h3] at e2; cases e2
      | ok us w2 =>
      rw [h3] at e2
      have e3 : R.ok (v :: us) w2 = .ok vs w' := e2
      cases e3
      rw [List.length_cons, List.length_cons, evK_len h2 h3]
theorem pa_tys (g : Gd T c E X Wx k) : ∀ {ts : List Pv.T} {us : List Expr}, tyNames ts us = true → us.all (fun u => match u with
      | .Name v _ => glB c.sc v && decide (v ∈ c.ms)
      | _ => false) = true → PA X us fun _ H Q => Q (ts.map fun t => V.ty t.nm) H
  | [], [], _, _ => pa_nil
  | t :: ts, u :: us, h, h2 => by
    obtain ⟨h3, h4⟩ := a2 (show (_ && _) = true from h2)
    cases u with
    | Name v p =>
      obtain ⟨h5, h6⟩ := a2 (show (isS v (Str.ofString t.nm) && tyNames ts us) = true from h)
      obtain ⟨h7, h8⟩ := a2 (show (glB c.sc v && decide (v ∈ c.ms)) = true from h3)
      obtain ⟨q1, q2⟩ := g.gl h7
      exact pa_cons (pe_ty (t := t) (of_decide_eq_true h5) q1 (g.gk.ms v (of_decide_eq_true h8)) q2) (pa_tys g h6 h4) rfl
    | _ => exact no2 h
  | [], _ :: _, h, _ => no2 h
  | _ :: _, [], h, _ => no2 h
theorem plainIx_of {y : Expr} (h : notSlice y = true) : PlainIx y := by
  intro o j
  cases y <;> first | rfl | exact no2 h
end
def isE : Ex → Bool
  | .nil => false
  | .cons _ _ => false
  | .seq _ => false
  | .rng _ => false
  | .enm _ => false
  | .zp _ _ => false
  | _ => true
theorem isE_a {u : Ex} {c : Cc} {xs : List Expr} (hu : isE u = true) (h : mA u c xs = true) : False := by
  rcases mA_cases h with ⟨rfl, _⟩ | ⟨_, _, _, _, rfl, _⟩ <;> cases hu
theorem isE_k {u : Ex} {c : Cc} {xs : List Keyword} (hu : isE u = true) (h : mK u c xs = true) : False := by
  rcases mK_cases h with ⟨rfl, _⟩ | ⟨_, _, _, _, _, _, rfl, _⟩ <;> cases hu
theorem isE_p {u : Ex} {c : Cc} {o : Option Expr} (hu : isE u = true) (h : mP u c o = true) : False := by
  cases u <;> first | exact no2 h | cases hu
theorem isE_i {u : Ex} {c : Cc} {tg x : Expr} (hu : isE u = true) (h : mI u c tg x = true) : False := by
  cases u <;> first | exact no2 h | cases hu
theorem nE {u : Ex} {c : Cc} {x : Expr} (hu : isE u = false) (h : mE u c x = true) : False := by
  cases u <;> first | exact no2 h | cases hu
theorem Oks.ex {T : Tab} {E : En} {k : Nat} {u : Ex} (hu : isE u = true) (he : ∀ c X Wx x, Gd T c E X Wx k → mE u c x = true → I_ T X Wx x (ev E u))
    (hf : ∀ c X Wx x, Gd T c E X Wx k → mE u c x = true → fresh u = true → F_ T X Wx x (ev E u)) (ht : ∀ c X Wx x, Gd T c E X Wx k → mE u c x = true → tOk u = true → T_ T X Wx x (ev E u))
    (hw : ∀ c X Wx o y z r p, Gd T c E X Wx k → mE u c (.BoolOp o (y :: z :: r) p) = true → tOk u = true → TW_ T X Wx (.BoolOp o (y :: z :: r) p) (ev E u)) : Oks T E k u where
  e := he
  f := hf
  t := ht
  w := hw
  a := fun _ _ _ _ _ h => (isE_a hu h).elim
  kw := fun _ _ _ _ _ h => (isE_k hu h).elim
  p := fun _ _ _ _ _ h => (isE_p hu h).elim
  i := fun _ _ _ _ _ _ h => (isE_i hu h).elim
theorem Oks.no {T : Tab} {E : En} {k : Nat} {u : Ex} (hu : isE u = false) (ha : ∀ c X Wx xs, Gd T c E X Wx k → mA u c xs = true → A_ T X Wx xs (evA E u))
    (hk : ∀ c X Wx xs, Gd T c E X Wx k → mK u c xs = true → K_ T X Wx xs (evA E u)) (hp : ∀ c X Wx o, Gd T c E X Wx k → mP u c o = true → PO X o (tIP T X.K Wx (evP E u)))
    (hi : ∀ c X Wx tg x, Gd T c E X Wx k → mI u c tg x = true → PI X tg x (tII T X.K Wx (evI E u))) : Oks T E k u where
  e := fun _ _ _ _ _ h => (nE hu h).elim
  f := fun _ _ _ _ _ h => (nE hu h).elim
  t := fun _ _ _ _ _ h => (nE hu h).elim
  w := fun _ _ _ _ _ _ _ _ _ h => (nE hu h).elim
  a := ha
  kw := hk
  p := hp
  i := hi
end Pv
namespace Pv
open PySem PySem.Spec PyProof.Rows L2 RZ
section
variable {T : Tab} {E : En} {k : Nat}
theorem no_f {u : Ex} {p : Prop} (h : fresh u = false) (h' : fresh u = true) : p := no2 (h ▸ h')
theorem ok_var (i : Nat) : Oks T E k (.var i) := by
  have he : ∀ c X Wx x, Gd T c E X Wx k → mE (.var i) c x = true → I_ T X Wx x (ev E (.var i)) := fun c X Wx x g h => by
    cases x with
    | Name n p =>
      obtain ⟨h1, h3⟩ := a2 (show (decide (c.N[i]? = some n) && visB c.sc n && plainN n) = true from h)
      obtain ⟨h1, h2⟩ := a2 h1
      obtain ⟨q1, q2⟩ := plain_of h3
      exact pe_slot (g.slot h1) (g.sc.vis (vis_of h2)) q1 q2
    | _ => exact no2 h
  refine .ex rfl he (fun _ _ _ _ _ _ h => no2 h) (fun c X Wx x g h _ => pt_val (he c X Wx x g h) ?_) (fun _ _ _ _ _ _ _ _ _ h => no2 h)
  cases x <;> first | (intro _; rfl) | exact no2 h
theorem ok_frz (i : Nat) : Oks T E k (.frz i) := by
  refine .ex rfl (fun c X Wx x g h => ?_) (fun _ _ _ _ _ _ h => no2 h) (fun _ _ _ _ _ _ h => no2 h) (fun _ _ _ _ _ _ _ _ _ h => no2 h)
  cases x with
  | Name n p =>
    obtain ⟨h1, h3⟩ := a2 (show (decide (c.N[i]? = some n) && visB c.sc n && plainN n) = true from h)
    obtain ⟨h1, h2⟩ := a2 h1
    obtain ⟨q1, q2⟩ := plain_of h3
    exact pe_frz (g.slot h1) (g.sc.vis (vis_of h2)) q1 q2
  | _ => exact no2 h
theorem ok_cst (d : D) : Oks T E k (.cst d) := by
  have he : ∀ c X Wx x, Gd T c E X Wx k → mE (.cst d) c x = true → I_ T X Wx x (ev E (.cst d)) := fun c X Wx x g h => by
    cases x with
    | Constant n j p =>
      have h' : cstB d n = true := h
      unfold cstB at h'
      split at h'
      · exact pe_data pe_non fun _ => .non
      · rename_i a b
        have e : a = b := by simpa using h'
        subst e
        exact pe_data pe_bl fun _ => .bl _
      · rename_i a b
        have e : a = b := by simpa using h'
        subst e
        exact pe_data pe_int fun _ => .int _
      · have e := of_decide_eq_true h'
        subst e
        exact pe_data pe_str fun _ => .str _
      · exact no2 h'
    | _ => exact no2 h
  refine .ex rfl he (fun _ _ _ _ _ _ h => no2 h) (fun c X Wx x g h _ => pt_val (he c X Wx x g h) ?_) (fun _ _ _ _ _ _ _ _ _ h => no2 h)
  cases x <;> first | (intro _; rfl) | exact no2 h
theorem ok_dct : Oks T E k .dct := by
  refine .ex rfl (fun c X Wx x g h => ?_) (fun _ _ _ _ _ _ h => no2 h) (fun _ _ _ _ _ _ h => no2 h) (fun _ _ _ _ _ _ _ _ _ h => no2 h)
  cases x with
  | Dict ks vs p =>
    match ks, vs, h with
    | [], [], _ => exact pe_dct
    | [], _ :: _, h => exact no2 h
    | none :: _, _, h => exact no2 h
    | some _ :: _, _, h => exact no2 h
  | _ => exact no2 h
theorem ok_glob (j : Nat) : Oks T E k (.glob j) := by
  have he : ∀ c X Wx x, Gd T c E X Wx k → mE (.glob j) c x = true → I_ T X Wx x (ev E (.glob j)) := fun c X Wx x g h => by
    cases x with
    | Name n p =>
      obtain ⟨h1, h2⟩ := a2 (show (decide (c.gl[j]? = some n) && glB c.sc n) = true from h)
      obtain ⟨q1, q2⟩ := g.gl h2
      obtain ⟨u, v, d, e1, e2, e3, e4⟩ := g.gk.gl j n (of_decide_eq_true h1)
      have := pe_data (T' := T) (Wx := Wx) (pe_glob (pos := p) q1 e1 e2 q2) e4
      show I_ T X Wx _ fun _ w => ofO ((E.G j).map IV.d) w
      rw [e3]
      exact this
    | _ => exact no2 h
  refine .ex rfl he (fun _ _ _ _ _ _ h => no2 h) (fun c X Wx x g h _ => pt_val (he c X Wx x g h) ?_) (fun _ _ _ _ _ _ _ _ _ h => no2 h)
  cases x <;> first | (intro _; rfl) | exact no2 h
theorem ok_nil : Oks T E k .nil := by
  refine .no rfl (fun c X Wx xs g h => ?_) (fun c X Wx xs g h => ?_) (fun c X Wx o g h => ?_) (fun _ _ _ _ _ _ h => no2 h)
  · rcases mA_cases h with ⟨_, rfl⟩ | ⟨_, _, _, _, z, _⟩
    · exact sA_nil
    · cases z
  · rcases mK_cases h with ⟨_, rfl⟩ | ⟨_, _, _, _, _, _, z, _⟩
    · exact sK_nil
    · cases z
  · cases o with
    | none => exact sP_none
    | some _ => exact no2 h
theorem ok_cons {a r : Ex} (ha : Oks T E k a) (hr : Oks T E k r) : Oks T E k (.cons a r) := by
  refine .no rfl (fun c X Wx xs g h => ?_) (fun c X Wx xs g h => ?_) (fun c X Wx o g h => ?_) (fun _ _ _ _ _ _ h => no2 h)
  · rcases mA_cases h with ⟨z, _⟩ | ⟨_, _, e, q, z, rfl, h1, h2, h3⟩
    · cases z
    · cases z
      exact sA_cons h1 (ha.e c X Wx e g h2) (hr.a c X Wx q g h3)
  · rcases mK_cases h with ⟨z, _⟩ | ⟨_, _, n, e, p, q, z, rfl, h2, h3⟩
    · cases z
    · cases z
      exact sK_cons (ha.e c X Wx e g h2) (hr.kw c X Wx q g h3)
  · cases o with
    | none => cases r <;> exact no2 h
    | some x => cases r <;> first | exact no2 h | exact sP_some (ha.e c X Wx x g h)
theorem ok_tup {a : Ex} (ha : Oks T E k a) : Oks T E k (.tup a) := by
  refine .ex rfl (fun c X Wx x g h => ?_) (fun _ _ _ _ _ _ h => no2 h) (fun _ _ _ _ _ _ h => no2 h) (fun _ _ _ _ _ _ _ _ _ h => no2 h)
  cases x with
  | Tuple xs n p => exact sE_tup (ha.a c X Wx xs g h)
  | _ => exact no2 h
theorem ok_lst {a : Ex} (ha : Oks T E k a) : Oks T E k (.lst a) := by
  have hf : ∀ c X Wx x, Gd T c E X Wx k → mE (.lst a) c x = true → F_ T X Wx x (ev E (.lst a)) := fun c X Wx x g h => by
    cases x with
    | List xs p => exact sF_lst (ha.a c X Wx xs g h)
    | _ => exact no2 h
  exact .ex rfl (fun c X Wx x g h => freezeF (hf c X Wx x g h)) (fun c X Wx x g h _ => hf c X Wx x g h) (fun _ _ _ _ _ _ h => no2 h) (fun _ _ _ _ _ _ _ _ _ h => no2 h)
theorem ok_new {a : Ex} (ha : Oks T E k a) : Oks T E k (.new a) := by
  refine .ex rfl (fun c X Wx x g h => ?_) (fun _ _ _ _ _ _ h => no2 h) (fun _ _ _ _ _ _ h => no2 h) (fun _ _ _ _ _ _ _ _ _ _ h => no2 h)
  obtain ⟨h1, h2⟩ := a2 (show (fresh a && mE a c x) = true from h)
  exact newF (ha.f c X Wx x g h2 h1)
theorem ok_lstm {a : Ex} (ha : Oks T E k a) : Oks T E k (.lstm a) := by
  refine .ex rfl (fun c X Wx x g h => ?_) (fun _ _ _ _ _ _ h => no2 h) (fun _ _ _ _ _ _ h => no2 h) (fun _ _ _ _ _ _ _ _ _ h => no2 h)
  cases x with
  | List xs p => exact sE_lstm (ha.a c X Wx xs g h)
  | _ => exact no2 h
theorem ok_subm {a b : Ex} (ha : Oks T E k a) (hb : Oks T E k b) : Oks T E k (.subm a b) := by
  refine .ex rfl (fun c X Wx x g h => ?_) (fun _ _ _ _ _ _ h => no2 h) (fun _ _ _ _ _ _ h => no2 h) (fun _ _ _ _ _ _ _ _ _ h => no2 h)
  cases x with
  | Subscript x y p =>
    obtain ⟨h1, h3⟩ := a2 (show (notSlice y && mE a c x && mE b c y) = true from h)
    obtain ⟨h1, h2⟩ := a2 h1
    exact sE_subm (plainIx_of h1) (ha.e c X Wx x g h2) (hb.e c X Wx y g h3)
  | _ => exact no2 h
theorem ok_fz {a : Ex} (ha : Oks T E k a) : Oks T E k (.fz a) := by
  refine .ex rfl (fun c X Wx x g h => ?_) (fun _ _ _ _ _ _ h => no2 h) (fun _ _ _ _ _ _ h => no2 h) (fun _ _ _ _ _ _ _ _ _ _ h => no2 h)
  exact sE_fz (ha.e c X Wx x g (a2 (show (!lcB x && mE a c x) = true by cases x <;> exact h)).2)
theorem ok_bin {o : Operator} {a b : Ex} (ha : Oks T E k a) (hb : Oks T E k b) : Oks T E k (.bin o a b) := by
  have hf : ∀ c X Wx x, Gd T c E X Wx k → mE (.bin o a b) c x = true → F_ T X Wx x (ev E (.bin o a b)) := fun c X Wx x g h => by
    cases x with
    | BinOp x o' y p =>
      obtain ⟨h1, h3⟩ := a2 (show (decide (o = o') && mE a c x && mE b c y) = true from h)
      obtain ⟨h1, h2⟩ := a2 h1
      have e := of_decide_eq_true h1
      subst e
      exact sE_bin (ha.e c X Wx x g h2) (hb.e c X Wx y g h3)
    | _ => exact no2 h
  exact .ex rfl (fun c X Wx x g h => freezeF (hf c X Wx x g h)) (fun c X Wx x g h _ => hf c X Wx x g h) (fun _ _ _ _ _ _ h => no2 h) (fun _ _ _ _ _ _ _ _ _ h => no2 h)
theorem ok_neg {a : Ex} (ha : Oks T E k a) : Oks T E k (.neg a) := by
  refine .ex rfl (fun c X Wx x g h => ?_) (fun _ _ _ _ _ _ h => no2 h) (fun _ _ _ _ _ _ h => no2 h) (fun _ _ _ _ _ _ _ _ _ h => no2 h)
  cases x with
  | UnaryOp o x p => cases o <;> first | exact no2 h | exact sE_neg (ha.e c X Wx x g h)
  | _ => exact no2 h
theorem ok_not {a : Ex} (ha : Oks T E k a) : Oks T E k (.not a) := by
  refine .ex rfl (fun c X Wx x g h => ?_) (fun _ _ _ _ _ _ h => no2 h) (fun c X Wx x g h t => ?_) (fun _ _ _ _ _ _ _ _ _ h => no2 h)
  · cases x with
    | UnaryOp o x p => cases o <;> first | exact no2 h | exact sE_not (ha.e c X Wx x g h)
    | _ => exact no2 h
  · cases x with
    | UnaryOp o x p => cases o <;> first | exact no2 h | exact sT_not (ha.t c X Wx x g h t)
    | _ => exact no2 h
theorem ok_and {a b : Ex} (ha : Oks T E k a) (hb : Oks T E k b) : Oks T E k (.and a b) := by
  have hw : ∀ c X Wx o y z r p, Gd T c E X Wx k → mE (.and a b) c (.BoolOp o (y :: z :: r) p) = true → tOk (.and a b) = true → TW_ T X Wx (.BoolOp o (y :: z :: r) p) (ev E (.and a b)) := fun c X Wx o y z r p g h t => by
    cases o with
    | Or => exact no2 h
    | And =>
      obtain ⟨t1, t2⟩ := a2 (show (tOk a && tOk b) = true from t)
      cases r with
      | nil =>
        obtain ⟨h1, h2⟩ := a2 (show (mE a c y && mE b c z) = true from h)
        exact sT_and (ha.t c X Wx y g h1 t1) (pw_and1 (hb.t c X Wx z g h2 t2))
      | cons u q =>
        obtain ⟨h1, h2⟩ := a2 (show (mE a c y && mE b c (.BoolOp .And (z :: u :: q) p)) = true from h)
        exact sT_and (ha.t c X Wx y g h1 t1) (hb.w c X Wx .And z u q p g h2 t2)
  refine .ex rfl (fun c X Wx x g h => ?_) (fun _ _ _ _ _ _ h => no2 h) (fun c X Wx x g h t => ?_) hw
  · cases x with
    | BoolOp o xs p =>
      cases o with
      | Or => exact no2 h
      | And =>
        match xs, h with
        | [], h => exact no2 h
        | [_], h => exact no2 h
        | [y, z], h =>
          obtain ⟨h1, h2⟩ := a2 (show (mE a c y && mE b c z) = true from h)
          exact sE_and (ha.e c X Wx y g h1) (pe_one (hb.e c X Wx z g h2))
        | y :: z :: u :: q, h =>
          obtain ⟨h1, h2⟩ := a2 (show (mE a c y && mE b c (.BoolOp .And (z :: u :: q) p)) = true from h)
          exact sE_and (ha.e c X Wx y g h1) (hb.e c X Wx _ g h2)
    | _ => exact no2 h
  · cases x with
    | BoolOp o xs p =>
      match xs, h with
      | [], h => cases o <;> exact no2 h
      | [_], h => cases o <;> exact no2 h
      | y :: z :: r, h => exact PT.ofW (hw c X Wx o y z r p g h t)
    | _ => exact no2 h
theorem ok_or {a b : Ex} (ha : Oks T E k a) (hb : Oks T E k b) : Oks T E k (.or a b) := by
  have hw : ∀ c X Wx o y z r p, Gd T c E X Wx k → mE (.or a b) c (.BoolOp o (y :: z :: r) p) = true → tOk (.or a b) = true → TW_ T X Wx (.BoolOp o (y :: z :: r) p) (ev E (.or a b)) := fun c X Wx o y z r p g h t => by
    cases o with
    | And => exact no2 h
    | Or =>
      obtain ⟨t1, t2⟩ := a2 (show (tOk a && tOk b) = true from t)
      cases r with
      | nil =>
        obtain ⟨h1, h2⟩ := a2 (show (mE a c y && mE b c z) = true from h)
        exact sT_or (ha.t c X Wx y g h1 t1) (pw_or1 (hb.t c X Wx z g h2 t2))
      | cons u q =>
        obtain ⟨h1, h2⟩ := a2 (show (mE a c y && mE b c (.BoolOp .Or (z :: u :: q) p)) = true from h)
        exact sT_or (ha.t c X Wx y g h1 t1) (hb.w c X Wx .Or z u q p g h2 t2)
  refine .ex rfl (fun c X Wx x g h => ?_) (fun _ _ _ _ _ _ h => no2 h) (fun c X Wx x g h t => ?_) hw
  · cases x with
    | BoolOp o xs p =>
      cases o with
      | And => exact no2 h
      | Or =>
        match xs, h with
        | [], h => exact no2 h
        | [_], h => exact no2 h
        | [y, z], h =>
          obtain ⟨h1, h2⟩ := a2 (show (mE a c y && mE b c z) = true from h)
          exact sE_or (ha.e c X Wx y g h1) (pe_one (hb.e c X Wx z g h2))
        | y :: z :: u :: q, h =>
          obtain ⟨h1, h2⟩ := a2 (show (mE a c y && mE b c (.BoolOp .Or (z :: u :: q) p)) = true from h)
          exact sE_or (ha.e c X Wx y g h1) (hb.e c X Wx _ g h2)
    | _ => exact no2 h
  · cases x with
    | BoolOp o xs p =>
      match xs, h with
      | [], h => cases o <;> exact no2 h
      | [_], h => cases o <;> exact no2 h
      | y :: z :: r, h => exact PT.ofW (hw c X Wx o y z r p g h t)
    | _ => exact no2 h
theorem ok_ite {a b d : Ex} (ha : Oks T E k a) (hb : Oks T E k b) (hd : Oks T E k d) : Oks T E k (.ite a b d) := by
  refine .ex rfl (fun c X Wx x g h => ?_) (fun c X Wx x g h f => ?_) (fun _ _ _ _ _ _ h => no2 h) (fun _ _ _ _ _ _ _ _ _ h => no2 h)
  · cases x with
    | IfExp z x y p =>
      obtain ⟨h1, h4⟩ := a2 (show (tOk a && mE a c z && mE b c x && mE d c y) = true from h)
      obtain ⟨h1, h3⟩ := a2 h1
      obtain ⟨h1, h2⟩ := a2 h1
      exact sE_ite (ha.t c X Wx z g h2 h1) (hb.e c X Wx x g h3) (hd.e c X Wx y g h4)
    | _ => exact no2 h
  · cases x with
    | IfExp z x y p =>
      obtain ⟨h1, h4⟩ := a2 (show (tOk a && mE a c z && mE b c x && mE d c y) = true from h)
      obtain ⟨h1, h3⟩ := a2 h1
      obtain ⟨h1, h2⟩ := a2 h1
      obtain ⟨f1, f2⟩ := a2 (show (fresh b && fresh d) = true from f)
      exact sF_ite (ha.t c X Wx z g h2 h1) (hb.f c X Wx x g h3 f1) (hd.f c X Wx y g h4 f2)
    | _ => exact no2 h
theorem ok_cmp {o : CmpOp} {a b : Ex} (ha : Oks T E k a) (hb : Oks T E k b) : Oks T E k (.cmp o a b) := by
  have gen : ∀ {c x}, mE (.cmp o a b) c x = true → ∃ x' y p, x = .Compare x' [o] [y] p ∧ mE a c x' = true ∧ mE b c y = true ∧ behindInMarks o y = false := fun {c x} h => by
    cases x with
    | Compare x os ys p =>
      match os, ys, h with
      | [o'], [y], h =>
        obtain ⟨h1, h4⟩ := a2 (show (decide (o = o') && mE a c x && mE b c y && !behindInMarks o y) = true from h)
        obtain ⟨h1, h3⟩ := a2 h1
        obtain ⟨h1, h2⟩ := a2 h1
        have e := of_decide_eq_true h1
        subst e
        exact ⟨x, y, p, rfl, h2, h3, by simpa using h4⟩
      | [], _, h => exact no2 h
      | _ :: _ :: _, _, h => exact no2 h
      | [_], [], h => exact no2 h
      | [_], _ :: _ :: _, h => exact no2 h
    | _ => exact no2 h
  refine .ex rfl (fun c X Wx x g h => ?_) (fun _ _ _ _ _ _ h => no2 h) (fun c X Wx x g h _ => ?_) (fun _ _ _ _ _ _ _ _ _ h => no2 h)
  · obtain ⟨x, y, p, rfl, h2, h3, h4⟩ := gen h
    exact sE_cmp g.room h4 (ha.e c X Wx x g h2) (hb.e c X Wx y g h3)
  · obtain ⟨x, y, p, rfl, h2, h3, h4⟩ := gen h
    exact sT_cmp g.room h4 (ha.e c X Wx x g h2) (hb.e c X Wx y g h3)
theorem ok_chain {o o' : CmpOp} {a b d : Ex} (ha : Oks T E k a) (hb : Oks T E k b) (hd : Oks T E k d) : Oks T E k (.chain o o' a b d) := by
  have gen : ∀ {c x}, mE (.chain o o' a b d) c x = true → ∃ x' y z p, x = .Compare x' [o, o'] [y, z] p ∧ mE a c x' = true ∧ mE b c y = true ∧ mE d c z = true ∧ behindInMarks o' z = false := fun {c x} h => by
    cases x with
    | Compare x os ys pp =>
      match os, ys, h with
      | [p, p'], [y, u], h =>
        obtain ⟨h1, h6⟩ := a2 (show (decide (o = p) && decide (o' = p') && mE a c x && mE b c y && mE d c u && !behindInMarks p' u) = true from h)
        obtain ⟨h1, h5⟩ := a2 h1
        obtain ⟨h1, h4⟩ := a2 h1
        obtain ⟨h1, h3⟩ := a2 h1
        obtain ⟨h1, h2⟩ := a2 h1
        have e := of_decide_eq_true h1
        have e' := of_decide_eq_true h2
        subst e e'
        exact ⟨x, y, u, pp, rfl, h3, h4, h5, by simpa using h6⟩
      | [], _, h => exact no2 h
      | [_], _, h => exact no2 h
      | _ :: _ :: _ :: _, _, h => exact no2 h
      | [_, _], [], h => exact no2 h
      | [_, _], [_], h => exact no2 h
      | [_, _], _ :: _ :: _ :: _, h => exact no2 h
    | _ => exact no2 h
  refine .ex rfl (fun c X Wx x g h => ?_) (fun _ _ _ _ _ _ h => no2 h) (fun c X Wx x g h _ => ?_) (fun _ _ _ _ _ _ _ _ _ h => no2 h)
  · obtain ⟨x, y, z, p, rfl, h2, h3, h4, h5⟩ := gen h
    exact sE_chain g.room h5 (ha.e c X Wx x g h2) (hb.e c X Wx y g h3) (hd.e c X Wx z g h4)
  · obtain ⟨x, y, z, p, rfl, h2, h3, h4, h5⟩ := gen h
    exact sT_chain g.room h5 (ha.e c X Wx x g h2) (hb.e c X Wx y g h3) (hd.e c X Wx z g h4)
end
end Pv
namespace Pv
open PySem PySem.Spec PyProof.Rows L2 RZ
section
variable {T : Tab} {E : En} {k : Nat}
theorem fnm {c : Cc} {f : Nat} {x : Str} (h : (match c.fs[f]? with
    | some (n, _) => isS x n
    | none => false) = true) : ∃ ps, c.fs[f]? = some (x, ps) := by
  split at h
  · rename_i n ps e
    have := of_decide_eq_true h
    subst this
    exact ⟨ps, e⟩
  · cases h
theorem ok_call {f : Nat} {a : Ex} (ha : Oks T E k a) : Oks T E k (.call f a) := by
  have he : ∀ c X Wx x, Gd T c E X Wx k → mE (.call f a) c x = true → I_ T X Wx x (ev E (.call f a)) ∧ ∀ whole, isTrue x X.env whole = (do let v ← whole; standAt x.pos; holding [v] (truthy v)) := fun c X Wx x g h => by
    cases x with
    | Call fn ys kws p =>
      cases fn with
      | Name x p2 =>
        match ys, kws, h with
        | y :: ys, [], h =>
          obtain ⟨h1, h3⟩ := a2 (show ((match c.fs[f]? with
            | some (n, _) => isS x n
            | none => false) && glB c.sc x && mA a c (y :: ys)) = true from h)
          obtain ⟨h1, h2⟩ := a2 h1
          obtain ⟨ps, e⟩ := fnm h1
          obtain ⟨q1, q2⟩ := g.gl h2
          exact ⟨sE_call g e q1 q2 (mA_noStar h3) (ha.a c X Wx _ g h3), fun _ => rfl⟩
        | [], _, h => exact no2 h
        | _ :: _, _ :: _, h => exact no2 h
      | _ => exact no2 h
    | _ => exact no2 h
  exact .ex rfl (fun c X Wx x g h => (he c X Wx x g h).1) (fun _ _ _ _ _ _ h => no2 h) (fun c X Wx x g h _ => pt_val (he c X Wx x g h).1 (he c X Wx x g h).2) (fun _ _ _ _ _ _ _ _ _ h => no2 h)
theorem ok_callb {f : Nat} {a : Ex} (ha : Oks T E k a) : Oks T E k (.callb f a) := by
  have he : ∀ c X Wx x, Gd T c E X Wx k → mE (.callb f a) c x = true → I_ T X Wx x (ev E (.callb f a)) ∧ ∀ whole, isTrue x X.env whole = (do let v ← whole; standAt x.pos; holding [v] (truthy v)) := fun c X Wx x g h => by
    cases x with
    | Call fn ys kws p =>
      cases fn with
      | Name x p2 =>
        match ys, kws, h with
        | y :: ys, [], h =>
          obtain ⟨h1, h3⟩ := a2 (show ((match c.fs[f]? with
            | some (n, _) => isS x n
            | none => false) && glB c.sc x && mA a c (y :: ys)) = true from h)
          obtain ⟨h1, h2⟩ := a2 h1
          obtain ⟨ps, e⟩ := fnm h1
          obtain ⟨q1, q2⟩ := g.gl h2
          exact ⟨sE_callb g e q1 q2 (mA_noStar h3) (ha.a c X Wx _ g h3), fun _ => rfl⟩
        | [], _, h => exact no2 h
        | _ :: _, _ :: _, h => exact no2 h
      | _ => exact no2 h
    | _ => exact no2 h
  exact .ex rfl (fun c X Wx x g h => (he c X Wx x g h).1) (fun _ _ _ _ _ _ h => no2 h) (fun c X Wx x g h _ => pt_val (he c X Wx x g h).1 (he c X Wx x g h).2) (fun _ _ _ _ _ _ _ _ _ h => no2 h)
theorem ok_callk {f : Nat} {a b : Ex} {perm : List Nat} (ha : Oks T E k a) (hb : Oks T E k b) : Oks T E k (.callk f a b perm) := by
  have he : ∀ c X Wx x, Gd T c E X Wx k → mE (.callk f a b perm) c x = true → I_ T X Wx x (ev E (.callk f a b perm)) ∧ ∀ whole, isTrue x X.env whole = (do let v ← whole; standAt x.pos; holding [v] (truthy v)) := fun c X Wx x g h => by
    cases x with
    | Call fn ys kws p =>
      cases fn with
      | Name x p2 =>
        obtain ⟨h1, h5⟩ := a2 (show ((match c.fs[f]? with
          | some (n, _) => isS x n
          | none => false) && glB c.sc x && decide ((f, ys.length, kwNames kws, perm) ∈ c.kw) && mA a c ys && mK b c kws) = true from h)
        obtain ⟨h1, h4⟩ := a2 h1
        obtain ⟨h1, h3⟩ := a2 h1
        obtain ⟨h1, h2⟩ := a2 h1
        obtain ⟨ps, e⟩ := fnm h1
        obtain ⟨q1, q2⟩ := g.gl h2
        have hk := hb.kw c X Wx _ g h5
        have h3' := of_decide_eq_true h3
        refine ⟨?_, fun _ => rfl⟩
        cases ys with
        | nil =>
          have := sE_callk0 (p := p2) (pos := p) g e q1 q2 (mK_named h5) h3' hk fun _ _ _ _ e => evK_len h5 e
          rcases mA_cases h4 with ⟨rfl, _⟩ | ⟨_, _, _, _, _, z, _⟩
          · exact this
          · cases z
        | cons y ys => exact sE_callk1 g e q1 q2 (mA_noStar h4) (mK_named h5) h3' (ha.a c X Wx _ g h4) hk (fun _ _ _ _ e => evA_len h4 e) fun _ _ _ _ e => evK_len h5 e
      | _ => cases ys <;> exact no2 h
    | _ => exact no2 h
  exact .ex rfl (fun c X Wx x g h => (he c X Wx x g h).1) (fun _ _ _ _ _ _ h => no2 h) (fun c X Wx x g h _ => pt_val (he c X Wx x g h).1 (he c X Wx x g h).2) (fun _ _ _ _ _ _ _ _ _ h => no2 h)
theorem ok_blt {f : B} {a : Ex} (ha : Oks T E k a) : Oks T E k (.blt f a) := by
  have he : ∀ c X Wx x, Gd T c E X Wx k → mE (.blt f a) c x = true → F_ T X Wx x (ev E (.blt f a)) ∧ ∀ whole, isTrue x X.env whole = (do let v ← whole; standAt x.pos; holding [v] (truthy v)) := fun c X Wx x g h => by
    cases x with
    | Call fn ys kws p =>
      cases fn with
      | Name x p2 =>
        match ys, kws, h with
        | y :: ys, [], h =>
          obtain ⟨h1, h4⟩ := a2 (show (isS x f.nm && glB c.sc x && decide (f ∈ c.bs) && mA a c (y :: ys)) = true from h)
          obtain ⟨h1, h3⟩ := a2 h1
          obtain ⟨h1, h2⟩ := a2 h1
          obtain ⟨q1, q2⟩ := g.gl h2
          exact ⟨sF_blt g (of_decide_eq_true h3) (of_decide_eq_true h1) q1 q2 (mA_noStar h4) (ha.a c X Wx _ g h4), fun _ => rfl⟩
        | [], _, h => exact no2 h
        | _ :: _, _ :: _, h => exact no2 h
      | _ => exact no2 h
    | _ => exact no2 h
  exact .ex rfl (fun c X Wx x g h => freezeF (he c X Wx x g h).1) (fun c X Wx x g h _ => (he c X Wx x g h).1) (fun c X Wx x g h _ => pt_val (freezeF (he c X Wx x g h).1) (he c X Wx x g h).2) (fun _ _ _ _ _ _ _ _ _ h => no2 h)
theorem ok_isi {a : Ex} {ts : List Pv.T} (ha : Oks T E k a) : Oks T E k (.isi a ts) := by
  have he : ∀ c X Wx x, Gd T c E X Wx k → mE (.isi a ts) c x = true → I_ T X Wx x (ev E (.isi a ts)) ∧ ∀ whole, isTrue x X.env whole = (do let v ← whole; standAt x.pos; holding [v] (truthy v)) := fun c X Wx x g h => by
    cases x with
    | Call fn ys kws p =>
      cases fn with
      | Name x p2 =>
        match ys, kws, h with
        | [y, z], [], h =>
          obtain ⟨h1, h6⟩ := a2 (show (isS x "isinstance" && glB c.sc x && decide (x ∈ c.ms) && noStar y && mE a c y && (match (generalizing := false) ts, z with
            | [t], .Name u _ => isS u (Str.ofString t.nm) && glB c.sc u && decide (u ∈ c.ms)
            | t :: t' :: ts, .Tuple us _ _ => tyNames (t :: t' :: ts) us && decide (ts.length ≤ 100) && us.all (fun u => match u with
              | .Name v _ => glB c.sc v && decide (v ∈ c.ms)
              | _ => false)
            | _, _ => false)) = true from h)
          obtain ⟨h1, h5⟩ := a2 h1
          obtain ⟨h1, h4⟩ := a2 h1
          obtain ⟨h1, h3⟩ := a2 h1
          obtain ⟨h1, h2⟩ := a2 h1
          have e := of_decide_eq_true h1
          subst e
          obtain ⟨q1, q2⟩ := g.gl h2
          have hm := g.gk.ms _ (of_decide_eq_true h3)
          refine ⟨?_, fun _ => rfl⟩
          split at h6
          · rename_i t u up
            obtain ⟨h6, h8⟩ := a2 h6
            obtain ⟨h6, h7⟩ := a2 h6
            obtain ⟨q3, q4⟩ := g.gl h7
            exact sE_isi1 q1 hm h4 (ha.e c X Wx y g h5) (pe_ty (of_decide_eq_true h6) q3 (g.gk.ms _ (of_decide_eq_true h8)) q4) rfl
          · obtain ⟨h6, h8⟩ := a2 h6
            obtain ⟨h6, h7⟩ := a2 h6
            exact sE_isi2 q1 hm h4 (ha.e c X Wx y g h5) (pa_tys g h6 h8) (Nat.le_trans (of_decide_eq_true h7) (by decide))
          · cases h6
        | [], _, h => exact no2 h
        | [_], _, h => exact no2 h
        | _ :: _ :: _ :: _, _, h => exact no2 h
        | [_, _], _ :: _, h => exact no2 h
      | _ => exact no2 h
    | _ => exact no2 h
  exact .ex rfl (fun c X Wx x g h => (he c X Wx x g h).1) (fun _ _ _ _ _ _ h => no2 h) (fun c X Wx x g h _ => pt_val (he c X Wx x g h).1 (he c X Wx x g h).2) (fun _ _ _ _ _ _ _ _ _ h => no2 h)
theorem ok_sub {a b : Ex} (ha : Oks T E k a) (hb : Oks T E k b) : Oks T E k (.sub a b) := by
  have he : ∀ c X Wx x, Gd T c E X Wx k → mE (.sub a b) c x = true → I_ T X Wx x (ev E (.sub a b)) ∧ ∀ whole, isTrue x X.env whole = (do let v ← whole; standAt x.pos; holding [v] (truthy v)) := fun c X Wx x g h => by
    cases x with
    | Subscript x y p =>
      obtain ⟨h1, h3⟩ := a2 (show (notSlice y && mE a c x && mE b c y) = true from h)
      obtain ⟨h1, h2⟩ := a2 h1
      exact ⟨sE_sub (plainIx_of h1) (ha.e c X Wx x g h2) (hb.e c X Wx y g h3), fun _ => rfl⟩
    | _ => exact no2 h
  exact .ex rfl (fun c X Wx x g h => (he c X Wx x g h).1) (fun _ _ _ _ _ _ h => no2 h) (fun c X Wx x g h _ => pt_val (he c X Wx x g h).1 (he c X Wx x g h).2) (fun _ _ _ _ _ _ _ _ _ h => no2 h)
theorem ok_sl {a b d : Ex} (ha : Oks T E k a) (hb : Oks T E k b) (hd : Oks T E k d) : Oks T E k (.sl a b d) := by
  have hf : ∀ c X Wx x, Gd T c E X Wx k → mE (.sl a b d) c x = true → F_ T X Wx x (ev E (.sl a b d)) := fun c X Wx x g h => by
    cases x with
    | Subscript x y p =>
      cases y with
      | Slice l u st p2 =>
        cases st with
        | some _ => exact no2 h
        | none =>
          obtain ⟨h1, h3⟩ := a2 (show (mE a c x && mP b c l && mP d c u) = true from h)
          obtain ⟨h1, h2⟩ := a2 h1
          exact sF_sl (ha.e c X Wx x g h1) (hb.p c X Wx l g h2) (hd.p c X Wx u g h3)
      | _ => exact no2 h
    | _ => exact no2 h
  exact .ex rfl (fun c X Wx x g h => freezeF (hf c X Wx x g h)) (fun c X Wx x g h _ => hf c X Wx x g h) (fun _ _ _ _ _ _ h => no2 h) (fun _ _ _ _ _ _ _ _ _ h => no2 h)
theorem ok_slk {a b d e : Ex} (ha : Oks T E k a) (hb : Oks T E k b) (hd : Oks T E k d) (he : Oks T E k e) : Oks T E k (.slk a b d e) := by
  have hf : ∀ c X Wx x, Gd T c E X Wx k → mE (.slk a b d e) c x = true → F_ T X Wx x (ev E (.slk a b d e)) := fun c X Wx x g h => by
    cases x with
    | Subscript x y p =>
      cases y with
      | Slice l u st p2 =>
        obtain ⟨h1, h4⟩ := a2 (show (mE a c x && mP b c l && mP d c u && mP e c st) = true from h)
        obtain ⟨h1, h3⟩ := a2 h1
        obtain ⟨h1, h2⟩ := a2 h1
        exact sF_slk (ha.e c X Wx x g h1) (hb.p c X Wx l g h2) (hd.p c X Wx u g h3) (he.p c X Wx st g h4)
      | _ => exact no2 h
    | _ => exact no2 h
  exact .ex rfl (fun c X Wx x g h => freezeF (hf c X Wx x g h)) (fun c X Wx x g h _ => hf c X Wx x g h) (fun _ _ _ _ _ _ h => no2 h) (fun _ _ _ _ _ _ _ _ _ h => no2 h)
theorem ok_mth {m : M} {a b : Ex} (ha : Oks T E k a) (hb : Oks T E k b) : Oks T E k (.mth m a b) := by
  refine .ex rfl (fun c X Wx x g h => ?_) (fun _ _ _ _ _ _ h => no2 h) (fun _ _ _ _ _ _ h => no2 h) (fun _ _ _ _ _ _ _ _ _ h => ?_)
  · cases a with
    | var i =>
      cases x with
      | Call fn ys kws cp =>
        cases fn with
        | Attribute o nm ap =>
          cases o with
          | Name n p =>
            match ys, kws, h with
            | y :: ys, [], h =>
              obtain ⟨h1, h5⟩ := a2 (show (mE (.var i) c (.Name n p) && isS nm m.nm && (ap.endLine == cp.line) && decide (ys.length < 20) && mA b c (y :: ys)) = true from h)
              obtain ⟨h1, h4⟩ := a2 h1
              obtain ⟨h1, h3⟩ := a2 h1
              obtain ⟨k1, h2⟩ := a2 h1
              have e := of_decide_eq_true h2
              subst e
              exact sE_mth rfl (ha.e c X Wx _ g k1) h3 (of_decide_eq_true h4) (mA_noStar h5) (hb.a c X Wx _ g h5)
            | [], _, h => exact no2 h
            | _ :: _, _ :: _, h => exact no2 h
          | _ => exact no2 h
        | _ => exact no2 h
      | _ => exact no2 h
    | subm i j =>
      cases x with
      | Call fn ys kws cp =>
        cases fn with
        | Attribute o nm ap =>
          cases o with
          | Subscript z z2 p =>
            match ys, kws, h with
            | y :: ys, [], h =>
              obtain ⟨h1, h5⟩ := a2 (show (mE (.subm i j) c (.Subscript z z2 p) && isS nm m.nm && (ap.endLine == cp.line) && decide (ys.length < 20) && mA b c (y :: ys)) = true from h)
              obtain ⟨h1, h4⟩ := a2 h1
              obtain ⟨h1, h3⟩ := a2 h1
              obtain ⟨k1, h2⟩ := a2 h1
              have e := of_decide_eq_true h2
              subst e
              exact sE_mth rfl (ha.e c X Wx _ g k1) h3 (of_decide_eq_true h4) (mA_noStar h5) (hb.a c X Wx _ g h5)
            | [], _, h => exact no2 h
            | _ :: _, _ :: _, h => exact no2 h
          | _ => exact no2 h
        | _ => exact no2 h
      | _ => exact no2 h
    | _ => exact no2 h
  · cases a <;> exact no2 h
theorem ok_seq {a : Ex} (ha : Oks T E k a) : Oks T E k (.seq a) := by
  refine .no rfl (fun _ _ _ _ _ h => ?_) (fun _ _ _ _ _ h => ?_) (fun _ _ _ _ _ h => no2 h) (fun c X Wx tg x g h => sI_seq (ha.e c X Wx x g h))
  · rcases mA_cases h with ⟨z, _⟩ | ⟨_, _, _, _, z, _⟩ <;> cases z
  · rcases mK_cases h with ⟨z, _⟩ | ⟨_, _, _, _, _, _, z, _⟩ <;> cases z
theorem ok_rng {a : Ex} (ha : Oks T E k a) : Oks T E k (.rng a) := by
  refine .no rfl (fun _ _ _ _ _ h => ?_) (fun _ _ _ _ _ h => ?_) (fun _ _ _ _ _ h => no2 h) (fun c X Wx tg x g h => ?_)
  · rcases mA_cases h with ⟨z, _⟩ | ⟨_, _, _, _, z, _⟩ <;> cases z
  · rcases mK_cases h with ⟨z, _⟩ | ⟨_, _, _, _, _, _, z, _⟩ <;> cases z
  · cases x with
    | Call fn ys kws p =>
      cases fn with
      | Name x p2 =>
        match ys, kws, h with
        | y :: ys, [], h =>
          obtain ⟨h1, h5⟩ := a2 (show (isS x "range" && glB c.sc x && decide (x ∈ c.ms) && decide (ys.length ≤ 1) && mA a c (y :: ys)) = true from h)
          obtain ⟨h1, h4⟩ := a2 h1
          obtain ⟨h1, h3⟩ := a2 h1
          obtain ⟨h1, h2⟩ := a2 h1
          obtain ⟨q1, q2⟩ := g.gl h2
          exact sI_rng (of_decide_eq_true h1) q1 (g.gk.ms _ (of_decide_eq_true h3)) (mA_noStar h5) (of_decide_eq_true h4) (ha.a c X Wx _ g h5) fun _ _ _ _ e => evA_len h5 e
        | [], _, h => exact no2 h
        | _ :: _, _ :: _, h => exact no2 h
      | _ => exact no2 h
    | _ => exact no2 h
theorem ok_enm {a : Ex} (ha : Oks T E k a) : Oks T E k (.enm a) := by
  refine .no rfl (fun _ _ _ _ _ h => ?_) (fun _ _ _ _ _ h => ?_) (fun _ _ _ _ _ h => no2 h) (fun c X Wx tg x g h => ?_)
  · rcases mA_cases h with ⟨z, _⟩ | ⟨_, _, _, _, z, _⟩ <;> cases z
  · rcases mK_cases h with ⟨z, _⟩ | ⟨_, _, _, _, _, _, z, _⟩ <;> cases z
  · cases tg with
    | Tuple es n tp =>
      cases x with
      | Call fn ys kws p =>
        cases fn with
        | Name x p2 =>
          match ys, kws, h with
          | [y], [], h =>
            obtain ⟨h1, h5⟩ := a2 (show (isS x "enumerate" && glB c.sc x && decide (x ∈ c.ms) && noStar y && mE a c y) = true from h)
            obtain ⟨h1, h4⟩ := a2 h1
            obtain ⟨h1, h3⟩ := a2 h1
            obtain ⟨h1, h2⟩ := a2 h1
            obtain ⟨q1, q2⟩ := g.gl h2
            exact sI_enm (of_decide_eq_true h1) q1 (g.gk.ms _ (of_decide_eq_true h3)) h4 (ha.e c X Wx _ g h5)
          | [], _, h => exact no2 h
          | _ :: _ :: _, _, h => exact no2 h
          | [_], _ :: _, h => exact no2 h
        | _ => exact no2 h
      | _ => exact no2 h
    | _ => exact no2 h
theorem ok_zp {a b : Ex} (ha : Oks T E k a) (hb : Oks T E k b) : Oks T E k (.zp a b) := by
  refine .no rfl (fun _ _ _ _ _ h => ?_) (fun _ _ _ _ _ h => ?_) (fun _ _ _ _ _ h => no2 h) (fun c X Wx tg x g h => ?_)
  · rcases mA_cases h with ⟨z, _⟩ | ⟨_, _, _, _, z, _⟩ <;> cases z
  · rcases mK_cases h with ⟨z, _⟩ | ⟨_, _, _, _, _, _, z, _⟩ <;> cases z
  · cases tg with
    | Tuple es n tp =>
      cases x with
      | Call fn ys kws p =>
        cases fn with
        | Name x p2 =>
          match ys, kws, h with
          | [y, z], [], h =>
            obtain ⟨h1, h7⟩ := a2 (show (isS x "zip" && glB c.sc x && decide (x ∈ c.ms) && noStar y && noStar z && mE a c y && mE b c z) = true from h)
            obtain ⟨h1, h6⟩ := a2 h1
            obtain ⟨h1, h5⟩ := a2 h1
            obtain ⟨h1, h4⟩ := a2 h1
            obtain ⟨h1, h3⟩ := a2 h1
            obtain ⟨h1, h2⟩ := a2 h1
            obtain ⟨q1, q2⟩ := g.gl h2
            exact sI_zp (of_decide_eq_true h1) q1 (g.gk.ms _ (of_decide_eq_true h3)) h4 h5 (ha.e c X Wx _ g h6) (hb.e c X Wx _ g h7)
          | [], _, h => exact no2 h
          | [_], _, h => exact no2 h
          | _ :: _ :: _ :: _, _, h => exact no2 h
          | [_, _], _ :: _, h => exact no2 h
        | _ => exact no2 h
      | _ => exact no2 h
    | _ => exact no2 h
theorem nofold_of {x : Expr} (h : notSet x = true) (env : Env) (v : Value) : foldedSetIterable x env v = pure v := by
  cases x <;> first | rfl | exact no2 h
theorem comp_parts {c : Cc} {own : List Nat} {e : Ex} {t : Tg} {it d : Ex} {el : Expr} {gens : List Comprehension} {scope : Scope} {p : Pos} (h : mE (.comp own e t it d) c (.ListComp el gens scope p) = true) :
    ∃ tg iter ifs, gens = [⟨tg, iter, ifs, 0⟩] ∧ blkC c.N c.sc scope (own.map fun i => ((c.N[i]?).getD "", i)) = true ∧ notSet iter = true ∧ tgIn t own = true ∧ mI it c tg iter = true ∧ mT { c with sc := scope } t tg = true ∧ mE e { c with sc := scope } el = true ∧
      ((isNil d = true ∧ ifs = []) ∨ (isNil d = false ∧ ∃ z, ifs = [z] ∧ tOk d = true ∧ mE d { c with sc := scope } z = true)) := by
  match gens, h with
  | [⟨tg, iter, ifs, a⟩], h =>
    obtain ⟨h1, h8⟩ := a2 (show (blkC c.N c.sc scope (own.map fun i => ((c.N[i]?).getD "", i)) && decide (a = 0) && notSet iter && tgIn t own && mI it c tg iter && mT { c with sc := scope } t tg && mE e { c with sc := scope } el &&
      (match (generalizing := false) ifs with
        | [] => isNil d
        | [z] => !isNil d && tOk d && mE d { c with sc := scope } z
        | _ => false)) = true from h)
    obtain ⟨h1, h7⟩ := a2 h1
    obtain ⟨h1, h6⟩ := a2 h1
    obtain ⟨h1, h5⟩ := a2 h1
    obtain ⟨h1, h4⟩ := a2 h1
    obtain ⟨h1, h3⟩ := a2 h1
    obtain ⟨k1, h2⟩ := a2 h1
    have ea := of_decide_eq_true h2
    subst ea
    refine ⟨tg, iter, ifs, rfl, k1, h3, h4, h5, h6, h7, ?_⟩
    split at h8
    · exact .inl ⟨h8, rfl⟩
    · obtain ⟨h8, h10⟩ := a2 h8
      obtain ⟨h8, h9⟩ := a2 h8
      exact .inr ⟨by simpa using h8, _, rfl, h9, h10⟩
    · cases h8
  | [], h => exact no2 h
  | ⟨_, _, _, _⟩ :: _ :: _, h => exact no2 h
theorem ok_comp {own : List Nat} {e : Ex} {t : Tg} {it d : Ex} (he : Oks T E k e) (hi : Oks T E k it) (hd : Oks T E k d) : Oks T E k (.comp own e t it d) := by
  have hf : ∀ c X Wx x, Gd T c E X Wx k → mE (.comp own e t it d) c x = true → F_ T X Wx x (ev E (.comp own e t it d)) := fun c X Wx x g h => by
    cases x with
    | ListComp el gens scope p =>
      obtain ⟨tg, iter, ifs, rfl, h1, h3, h4, h5, h6, h7, h8⟩ := comp_parts h
      refine sF_comp (fi := evI E it) (fc := ev E d) (fe := ev E e) (isN := isNil d) g g.gk.q h1 h4 (nofold_of h3) (hi.i c X Wx tg iter g h5) h6 (fun X' g' => ttF_pts ?_) (fun X' g' => he.e _ X' W0 el g' h7)
      rcases h8 with ⟨h8, rfl⟩ | ⟨h8, z, rfl, h9, h10⟩
      · exact .inl ⟨h8, rfl⟩
      · exact .inr ⟨h8, z, rfl, hd.t _ X' W0 _ g' h10 h9⟩
    | _ => exact no2 h
  exact .ex rfl (fun c X Wx x g h => freezeF (hf c X Wx x g h)) (fun c X Wx x g h _ => hf c X Wx x g h) (fun _ _ _ _ _ _ h => no2 h) (fun _ _ _ _ _ _ _ _ _ h => no2 h)
theorem oks : ∀ u : Ex, Oks T E k u
  | .var i => ok_var i
  | .frz i => ok_frz i
  | .cst d => ok_cst d
  | .dct => ok_dct
  | .glob j => ok_glob j
  | .nil => ok_nil
  | .cons a r => ok_cons (oks a) (oks r)
  | .tup a => ok_tup (oks a)
  | .lst a => ok_lst (oks a)
  | .new a => ok_new (oks a)
  | .lstm a => ok_lstm (oks a)
  | .subm a i => ok_subm (oks a) (oks i)
  | .fz a => ok_fz (oks a)
  | .bin _ a b => ok_bin (oks a) (oks b)
  | .neg a => ok_neg (oks a)
  | .not a => ok_not (oks a)
  | .and a b => ok_and (oks a) (oks b)
  | .or a b => ok_or (oks a) (oks b)
  | .ite a b d => ok_ite (oks a) (oks b) (oks d)
  | .cmp _ a b => ok_cmp (oks a) (oks b)
  | .chain _ _ a b d => ok_chain (oks a) (oks b) (oks d)
  | .call _ a => ok_call (oks a)
  | .callb _ a => ok_callb (oks a)
  | .callk _ a b _ => ok_callk (oks a) (oks b)
  | .blt _ a => ok_blt (oks a)
  | .isi a _ => ok_isi (oks a)
  | .sub a b => ok_sub (oks a) (oks b)
  | .sl a b d => ok_sl (oks a) (oks b) (oks d)
  | .slk a b d e => ok_slk (oks a) (oks b) (oks d) (oks e)
  | .mth _ a b => ok_mth (oks a) (oks b)
  | .seq a => ok_seq (oks a)
  | .rng a => ok_rng (oks a)
  | .enm a => ok_enm (oks a)
  | .zp a b => ok_zp (oks a) (oks b)
  | .comp _ e _ it d => ok_comp (oks e) (oks it) (oks d)
end
end Pv
namespace Pv
open PySem PySem.Spec PyProof.Rows L2 RZ
def endsS (T : Tab) (K : PySem.W.Frag) (ms : List Addr) (H : Hp) (D : Ends) (Wx : WX) : RS → Prop
  | .mk (.next iσ) w => ∀ σ H' ms', Ext H ms H' ms' → Sim T K ms' H' iσ σ w → D.nx σ H'
  | .mk (.brk iσ) w => ∀ σ H' ms', Ext H ms H' ms' → Sim T K ms' H' iσ σ w → D.bk σ H'
  | .mk (.cnt iσ) w => ∀ σ H' ms', Ext H ms H' ms' → Sim T K ms' H' iσ σ w → D.ct σ H'
  | .mk (.ret v) w => ∀ u H' ms', Ext H ms H' ms' → RelI T K ms' H' v u → RelW K ms' H' w → D.rt u H'
  | .mk (.exc c x iσ) w => ∀ σ (d : Addr) (v : V) H' ms', Ext H ms H' ms' → H' d = some (.xd [(("value" : Str), v)]) → Fz K H' v x → Sim T K ms' H' iσ σ w → Wx (.ref (T.cls c)) (some d) σ H'
  | .no => False
def tS (T : Tab) (K : PySem.W.Frag) (Wx : WX) (f : Sl → W → RS) : TS := fun D σ H => ∃ ms iσ w, Sim T K ms H iσ σ w ∧ endsS T K ms H D Wx (f iσ w)
section
variable {T : Tab} {K : PySem.W.Frag} {Wx : WX} {ms ms' : List Addr} {H H' : Hp} {iσ : Sl} {σ : List (Option V)} {w : W} {D : Ends}
theorem endsS.grow (g : Ext H ms H' ms') {r : RS} (h : endsS T K ms H D Wx r) : endsS T K ms' H' D Wx r := by
  cases r with
  | no => exact h
  | mk f w =>
    cases f with
    | next i => exact fun σ H2 m2 g2 => h σ H2 m2 (g.trans g2)
    | brk i => exact fun σ H2 m2 g2 => h σ H2 m2 (g.trans g2)
    | cnt i => exact fun σ H2 m2 g2 => h σ H2 m2 (g.trans g2)
    | ret v => exact fun u H2 m2 g2 => h u H2 m2 (g.trans g2)
    | exc c x i => exact fun σ d v H2 m2 g2 => h σ d v H2 m2 (g.trans g2)
theorem stepS {α β : Type} {rel : Rel α β} {r : R α} {f : α → W → RS} {Q : β → Hp → Prop} (s : Sim T K ms H iσ σ w) (h : endsS T K ms H D Wx (onE r iσ f))
    (k : ∀ (a : α) (w1 : W) (b : β) (H1 : Hp) (ms1 : List Addr), r = .ok a w1 → Ext H ms H1 ms1 → rel H ms1 H1 a b → Sim T K ms1 H1 iσ σ w1 → endsS T K ms1 H1 D Wx (f a w1) → Q b H1) :
    endsR T K ms H (fun c d H' => Wx c d σ H') rel Q r := by
  cases r with
  | no => exact h
  | exc c x w1 => exact fun d v H2 m2 g2 e f2 w2 => h σ d v H2 m2 g2 e f2 (s.grow g2 w2)
  | ok a w1 => exact fun b H1 m1 g1 r1 w1' => k a w1 b H1 m1 rfl g1 r1 (s.grow g1 w1') (endsS.grow g1 h)
theorem stepT {r : R IV} {f : Bool → W → RS} {Q : V → Hp → Prop} (s : Sim T K ms H iσ σ w) (h : endsS T K ms H D Wx (onE (tst r fun k w => .ok k w) iσ f))
    (k : ∀ (a : Bool) (w1 : W) (H1 : Hp) (ms1 : List Addr), Ext H ms H1 ms1 → Sim T K ms1 H1 iσ σ w1 → endsS T K ms1 H1 D Wx (f a w1) → Q (.bl a) H1) :
    endsR T K ms H (fun c d H' => Wx c d σ H') (relI T K) Q r := by
  cases r with
  | no => exact h
  | exc c x w1 => exact fun d v H2 m2 g2 e f2 w2 => h σ d v H2 m2 g2 e f2 (s.grow g2 w2)
  | ok a w1 =>
    intro b H1 m1 g1 r1 w1'
    have h' : endsS T K ms H D Wx (onE (match toB a with
      | some b => R.ok b w1
      | none => .no) iσ f) := h
    cases hb : toB a with
    | none => rw [hb] at h'; exact h'.elim
    | some c =>
    rw [hb] at h'
    unfold toB at hb
    split at hb
    · cases hb
      cases (show Fz _ _ _ _ from r1)
      exact k c w1 H1 m1 g1 (s.grow g1 w1') (endsS.grow g1 h')
    · cases hb
end
section
variable {T : Tab} {X : Cx} {Wx : WX} {x y z tg : Expr} {pos p : Pos} {fe fo fx : Sl → W → R IV} {fa fb : Sl → W → RS} {fi : Sl → W → R Pv.It} {st : Stmt} {a b : List Stmt}
abbrev S_ (T : Tab) (X : Cx) (Wx : WX) (st : Stmt) (f : Sl → W → RS) : Prop := PS X st (tS T X.K Wx f)
abbrev B_ (T : Tab) (X : Cx) (Wx : WX) (st : List Stmt) (f : Sl → W → RS) : Prop := PSs X st (tS T X.K Wx f)
theorem sB_nil : B_ T X Wx [] fun σ w => .mk (.next σ) w := PSs.imp pss_nil fun D σ H ⟨ms, iσ, w, s, q⟩ => q σ H ms (Ext.refl _ _) s
theorem sB_cons (h1 : S_ T X Wx st fa) (h2 : B_ T X Wx b fb) : B_ T X Wx (st :: b) fun σ w => match fa σ w with
    | .mk (.next σ1) w1 => fb σ1 w1
    | o => o := by
  refine PSs.imp (pss_cons h1 h2) fun D σ H ⟨ms, iσ, w, s, q⟩ => ⟨ms, iσ, w, s, ?_⟩
  dsimp only at q
  cases hf : fa iσ w with
  | no => rw [hf] at q; exact q
  | mk f w1 =>
    rw [hf] at q
    cases f with
    | next i => exact fun σ H2 m2 g2 s2 => ⟨m2, i, w1, s2, endsS.grow g2 q⟩
    | brk i => exact q
    | cnt i => exact q
    | ret v => exact q
    | exc c x i => exact q
theorem sS_pass : S_ T X Wx (.Pass pos) fun σ w => .mk (.next σ) w := PS.imp ps_pass fun D σ H ⟨ms, iσ, w, s, q⟩ => q σ H ms (Ext.refl _ _) s
theorem sS_doc {c : Str} {j : Nat} : S_ T X Wx (.Expr (.Constant (.str c) j p) pos) fun σ w => .mk (.next σ) w := PS.imp ps_doc fun D σ H ⟨ms, iσ, w, s, q⟩ => q σ H ms (Ext.refl _ _) s
theorem sS_brk : S_ T X Wx (.Break pos) fun σ w => .mk (.brk σ) w := PS.imp ps_break fun D σ H ⟨ms, iσ, w, s, q⟩ => q σ H ms (Ext.refl _ _) s
theorem sS_cnt : S_ T X Wx (.Continue pos) fun σ w => .mk (.cnt σ) w := PS.imp ps_continue fun D σ H ⟨ms, iσ, w, s, q⟩ => q σ H ms (Ext.refl _ _) s
theorem sS_expr (he : I_ T X Wx x fe) (hs : swapsWith x none pos.line X.env = pure false) : S_ T X Wx (.Expr x pos) fun σ w => onE (fe σ w) σ fun _ w1 => .mk (.next σ) w1 :=
  PS.imp (ps_expr he hs) fun D σ H ⟨ms, iσ, w, s, q⟩ => ⟨ms, iσ, w, s, stepS s q fun a w1 b H1 m1 _ g1 r1 s1 q1 => q1 σ H1 m1 (Ext.refl _ _) s1⟩
theorem sS_ret (he : I_ T X Wx x fe) : S_ T X Wx (.Return (some x) pos) fun σ w => onE (fe σ w) σ fun v w1 => .mk (.ret v) w1 :=
  PS.imp (ps_ret he) fun D σ H ⟨ms, iσ, w, s, q⟩ => ⟨ms, iσ, w, s, stepS s q fun a w1 b H1 m1 _ g1 r1 s1 q1 => q1 b H1 m1 (Ext.refl _ _) r1 s1.w⟩
theorem sS_retN : S_ T X Wx (.Return none pos) fun _ w => .mk (.ret (.d .none)) w :=
  PS.imp ps_retN fun D σ H ⟨ms, iσ, w, s, q⟩ => q .non H ms (Ext.refl _ _) (show Fz _ _ _ _ from .non) s.w
theorem sS_stuck : S_ T X Wx st fun _ _ => .no := PS.imp ps_never fun D σ H ⟨ms, iσ, w, s, q⟩ => q
theorem sS_if (hc : T_ T X Wx x fe) (ha : B_ T X Wx a fa) (hb : B_ T X Wx b fb) : S_ T X Wx (.If x a b pos) fun σ w => onE (tst (fe σ w) fun k w => .ok k w) σ fun k w1 => if k then fa σ w1 else fb σ w1 := by
  refine PS.imp (ps_if hc ha hb) fun D σ H ⟨ms, iσ, w, s, q⟩ => ⟨ms, iσ, w, s, stepT s q fun k w1 H1 m1 g1 s1 q1 => ⟨k, rfl, ?_⟩⟩
  cases k with
  | true => exact ⟨m1, iσ, w1, s1, q1⟩
  | false => exact ⟨m1, iσ, w1, s1, q1⟩
theorem set_end {i : Nat} {v : IV} {u : V} {w1 : W} {D : Ends} {K : PySem.W.Frag} {ms : List Addr} {H : Hp} {iσ : Sl} {σ : List (Option V)} (s : Sim T K ms H iσ σ w1) (r : RelI T K ms H v u) (q : endsS T K ms H D Wx (.mk (.next (iσ.set i (some v))) w1)) : D.nx (σ.set i (some u)) H :=
  q _ H ms (Ext.refl _ _) (s.set r)
theorem sS_set {i : Nat} {n : Str} (hN : X.N.Nodup) (hi : X.N[i]? = some n) (hx : Loc X.env.scope n) (he : I_ T X Wx x fe) (hs : swapsWith x (some (.Name n p)) pos.line X.env = pure false) (hf : X.fn n = true ∨ X.env.scope.names.lookup n = some .local) :
    S_ T X Wx (.Assign [.Name n p] x pos) fun σ w => onE (fe σ w) σ fun v w1 => .mk (.next (σ.set i (some v))) w1 :=
  PS.imp (ps_set hN hi hx he hs hf) fun D σ H ⟨ms, iσ, w, s, q⟩ => ⟨ms, iσ, w, s, stepS s q fun a w1 b H1 m1 _ g1 r1 s1 q1 => set_end s1 r1 q1⟩
theorem sS_tup {t : Tg} (he : I_ T X Wx x fe) (hg : PG X tg (gI T X.K t)) (hs : swapsWithSole [tg] x pos.line X.env = pure false) (hw : swappedStores [tg] x X.env = pure none) (h1 : (assignEach [tg] X.env).map (·.2) = [assign tg X.env]) :
    S_ T X Wx (.Assign [tg] x pos) fun σ w => onE (fe σ w) σ fun v w1 => (match v with
      | .d x => ofS (asgT t x σ) w1
      | _ => .no) := by
  refine PS.imp (ps_asg he hg hs hw h1) fun D σ H ⟨ms, iσ, w, s, q⟩ => ⟨ms, iσ, w, s, stepS s q fun a w1 b H1 m1 _ g1 r1 s1 q1 => ?_⟩
  cases a with
  | ref _ => exact q1.elim
  | exc _ _ => exact q1.elim
  | d d =>
    have q2 : endsS T X.K m1 H1 D Wx (ofS (asgT t d iσ) w1) := q1
    cases ha : asgT t d iσ with
    | none => rw [ha] at q2; exact q2.elim
    | some σ1 =>
      rw [ha] at q2
      exact ⟨m1, iσ, w1, d, σ1, s1, r1, ha, fun σ' s' _ => q2 σ' H1 m1 (Ext.refl _ _) s'⟩
theorem sS_par2 {i j : Nat} {n n' : Str} {e e' : Expr} {fs : Sl → W → R (List IV)} {px py pt pt2 : Pos} {kt k2 : Nat} (hc : X.calm = true) (hN : X.N.Nodup) (hi : X.N[i]? = some n) (hj : X.N[j]? = some n') (hij : i ≠ j)
    (hx : X.env.scope.names.lookup n = some .local) (hy : X.env.scope.names.lookup n' = some .local) (ha : A_ T X Wx [e, e'] fs)
    (hw : swappedStores [.Tuple [.Name n px, .Name n' py] kt pt] (.Tuple [e, e'] k2 pt2) X.env = pure (some [n, n'])) :
    S_ T X Wx (.Assign [.Tuple [.Name n px, .Name n' py] kt pt] (.Tuple [e, e'] k2 pt2) pos) fun σ w => onE (fs σ w) σ fun vs w1 => ofS (setAll [i, j] vs σ) w1 := by
  refine PS.imp (ps_par hc hN hi hj hij hx hy ha hw) fun D σ H ⟨ms, iσ, w, s, q⟩ => ⟨ms, iσ, w, s, stepS s q fun vs w1 us H1 m1 _ g1 r1 s1 q1 => ?_⟩
  match vs, r1, q1 with
  | [], r1, q1 => exact q1.elim
  | [_], r1, q1 => exact q1.elim
  | [v, v'], .cons (b := u) ra (.cons (b := u') rb .nil), q1 => exact ⟨u, u', rfl, q1 _ H1 m1 (Ext.refl _ _) ((s1.set ra).set rb)⟩
  | _ :: _ :: _ :: _, r1, q1 => exact q1.elim
theorem sS_par3 {i j l : Nat} {n n' n'' : Str} {e e' e'' : Expr} {fs : Sl → W → R (List IV)} {px py pz pt pt2 : Pos} {kt k2 : Nat} (hc : X.calm = true) (hN : X.N.Nodup) (hi : X.N[i]? = some n) (hj : X.N[j]? = some n') (hl : X.N[l]? = some n'') (hij : i ≠ j) (hil : i ≠ l) (hjl : j ≠ l)
    (hx : X.env.scope.names.lookup n = some .local) (hy : X.env.scope.names.lookup n' = some .local) (hz : X.env.scope.names.lookup n'' = some .local) (ha : A_ T X Wx [e, e', e''] fs)
    (hw : swappedStores [.Tuple [.Name n px, .Name n' py, .Name n'' pz] kt pt] (.Tuple [e, e', e''] k2 pt2) X.env = pure (some [n, n', n''])) :
    S_ T X Wx (.Assign [.Tuple [.Name n px, .Name n' py, .Name n'' pz] kt pt] (.Tuple [e, e', e''] k2 pt2) pos) fun σ w => onE (fs σ w) σ fun vs w1 => ofS (setAll [i, j, l] vs σ) w1 := by
  refine PS.imp (ps_par3 hc hN hi hj hl hij hil hjl hx hy hz ha hw) fun D σ H ⟨ms, iσ, w, s, q⟩ => ⟨ms, iσ, w, s, stepS s q fun vs w1 us H1 m1 _ g1 r1 s1 q1 => ?_⟩
  match vs, r1, q1 with
  | [], r1, q1 => exact q1.elim
  | [_], r1, q1 => exact q1.elim
  | [_, _], r1, q1 => exact q1.elim
  | [v, v', v''], .cons (b := u) ra (.cons (b := u') rb (.cons (b := u'') rc .nil)), q1 => exact ⟨u, u', u'', rfl, q1 _ H1 m1 (Ext.refl _ _) (((s1.set ra).set rb).set rc)⟩
  | _ :: _ :: _ :: _ :: _, r1, q1 => exact q1.elim
theorem sS_ptu2 {i j : Nat} {n n' : Str} {e e' : Expr} {fs : Sl → W → R (List IV)} {px py pt pt2 : Pos} {kt k2 : Nat} (hc : X.calm = true) (hN : X.N.Nodup) (hi : X.N[i]? = some n) (hj : X.N[j]? = some n')
    (hx : PG X (.Name n px) (gName i)) (hy : PG X (.Name n' py) (gName j)) (ha : A_ T X Wx [e, e'] fs)
    (hs : swapsWithSole [.Tuple [.Name n px, .Name n' py] kt pt] (.Tuple [e, e'] k2 pt2) pos.line X.env = pure false)
    (hw : swappedStores [.Tuple [.Name n px, .Name n' py] kt pt] (.Tuple [e, e'] k2 pt2) X.env = pure none) :
    S_ T X Wx (.Assign [.Tuple [.Name n px, .Name n' py] kt pt] (.Tuple [e, e'] k2 pt2) pos) fun σ w => onE (fs σ w) σ fun vs w1 => ofS (setAll [i, j] vs σ) w1 := by
  refine PS.imp (ps_asg (pe_tup ha) (pg_tup (n := 2) hc (pgs_cons hx (pgs_cons hy pgs_nil))) hs hw) fun D σ H ⟨ms, iσ, w, s, q⟩ => ⟨ms, iσ, w, s, stepS s q fun vs w1 us H1 m1 _ g1 r1 s1 q1 => ?_⟩
  match vs, r1, q1 with
  | [], r1, q1 => exact q1.elim
  | [_], r1, q1 => exact q1.elim
  | [v, v'], .cons (b := u) ra (.cons (b := u') rb .nil), q1 =>
    refine ⟨by rw [sizeLine_eq]; exact Nat.le_trans (Nat.le_refl 2) (by decide), fun p hp => ⟨p, [u, u'], rfl, .of upd_same, rfl, u, [u'], rfl, u', [], rfl, rfl, ?_⟩⟩
    have g : Ext H1 m1 (upd H1 p (.tup [u, u'])) m1 := Ext.new hp
    exact q1 _ _ m1 g (((s1.grow g (s1.w.new hp)).set (ra.grow g)).set (rb.grow g))
  | _ :: _ :: _ :: _, r1, q1 => exact q1.elim
theorem paired_set {α β : Type} {R : α → β → Prop} : ∀ {as : List α} {bs : List β} (i : Nat) {a : α} {b : β}, Paired R as bs → R a b → Paired R (as.set i a) (bs.set i b)
  | [], _, _, _, _, .nil, _ => .nil
  | _ :: _, _, 0, _, _, .cons _ rr, r => .cons r rr
  | _ :: _, _, i + 1, _, _, .cons q rr, r => .cons q (paired_set i rr r)
theorem sS_stix (hx : I_ T X Wx x fe) (ho : I_ T X Wx y fo) (hi : I_ T X Wx z fx) (hn : notSlice z = true) (hs : swapsWithSole [.Subscript y z p] x pos.line X.env = pure false) (hw : swappedStores [.Subscript y z p] x X.env = pure none) :
    S_ T X Wx (.Assign [.Subscript y z p] x pos) fun σ w => onE (fe σ w) σ fun v w1 => onE (fo σ w1) σ fun u w2 => onE (fx σ w2) σ fun i w3 => (match u, i, v with
      | .ref n, .d ix, .d x => (match w3[n]? with
        | some (.lst xs) => (match stL xs ix x with
          | some ys => .mk (.next σ) (w3.set n (.lst ys))
          | none => .no)
        | _ => .no)
      | _, _, _ => .no) := by
  have hg : PG X (.Subscript y z p) (gSub (tI T X.K Wx fo) (tI T X.K Wx fx) rSetL) := pg_sub ho hi set_list (by cases z <;> first | (intro _; rfl) | exact no2 hn)
  refine PS.imp (ps_asg hx hg hs hw) fun D σ H ⟨ms, iσ, w, s, q⟩ => ⟨ms, iσ, w, s, stepS s q fun v w1 vx H1 m1 _ g1 r1 s1 q1 => ?_⟩
  refine ⟨m1, iσ, w1, s1, stepS s1 q1 fun u w2 ux H2 m2 _ g2 r2 s2 q2 => ?_⟩
  refine ⟨m2, iσ, w2, s2, stepS s2 q2 fun i w3 ix H3 m3 _ g3 r3 s3 q3 => ?_⟩
  have r1' := (r1.grow g2).grow g3
  have r2' := r2.grow g3
  match u, i, v, r1', r2', r3, q3 with
  | .d _, _, _, _, _, _, q3 => exact q3.elim
  | .exc _ _, _, _, _, _, _, q3 => exact q3.elim
  | .ref _, .ref _, _, _, _, _, q3 => exact q3.elim
  | .ref _, .exc _ _, _, _, _, _, q3 => exact q3.elim
  | .ref _, .d _, .ref _, _, _, _, q3 => exact q3.elim
  | .ref _, .d _, .exc _ _, _, _, _, q3 => exact q3.elim
  | .ref n, .d di, .d dv, r1', r2', r3, q3 =>
    have q4 : endsS T X.K m3 H3 D Wx (match w3[n]? with
        | some (.lst xs) => (match stL xs di dv with
          | some ys => .mk (.next iσ) (w3.set n (.lst ys))
          | none => .no)
        | _ => .no) := q3
    split at q4
    case h_2 => exact q4.elim
    rename_i ds hc
    obtain ⟨a, xs, rfl, hn, he, f⟩ := cell_lst r2' s3.w hc
    unfold stL at q4
    cases di with
    | int k =>
      dsimp only at q4
      cases hj : Pv.ixN ds.length k with
      | none => rw [hj] at q4; exact q4.elim
      | some j =>
        rw [hj] at q4
        cases (show Fz _ _ _ _ from r3)
        refine ⟨a, xs, k, j, rfl, rfl, he, by rw [f.length]; exact hj, ?_⟩
        have g : Ext H3 m3 (upd H3 a (.lst (xs.set j vx))) m3 := Ext.set he trivial (List.mem_of_getElem? hn)
        exact q4 σ _ m3 g (s3.grow g (s3.w.set hn he trivial ⟨_, upd_same, (FzAll.set (show Fz _ _ _ _ from r1') j f).grow g.toGrow⟩))
    | _ => exact q4.elim
theorem sS_stixm (hx : I_ T X Wx x fe) (ho : I_ T X Wx y fo) (hi : I_ T X Wx z fx) (hn : notSlice z = true) (hs : swapsWithSole [.Subscript y z p] x pos.line X.env = pure false) (hw : swappedStores [.Subscript y z p] x X.env = pure none) :
    S_ T X Wx (.Assign [.Subscript y z p] x pos) fun σ w => onE (fe σ w) σ fun v w1 => onE (fo σ w1) σ fun u w2 => onE (fx σ w2) σ fun i w3 => (match u, i with
      | .ref n, .d (.int k) => (match w3[n]? with
        | some (.mix vs) => (match Pv.ixN vs.length k with
          | some j => if elOk n v then .mk (.next σ) (w3.set n (.mix (vs.set j v))) else .no
          | none => .no)
        | _ => .no)
      | _, _ => .no) := by
  have hg : PG X (.Subscript y z p) (gSub (tI T X.K Wx fo) (tI T X.K Wx fx) rSetL) := pg_sub ho hi set_list (by cases z <;> first | (intro _; rfl) | exact no2 hn)
  refine PS.imp (ps_asg hx hg hs hw) fun D σ H ⟨ms, iσ, w, s, q⟩ => ⟨ms, iσ, w, s, stepS s q fun v w1 vx H1 m1 _ g1 r1 s1 q1 => ?_⟩
  refine ⟨m1, iσ, w1, s1, stepS s1 q1 fun u w2 ux H2 m2 _ g2 r2 s2 q2 => ?_⟩
  refine ⟨m2, iσ, w2, s2, stepS s2 q2 fun i w3 ix H3 m3 _ g3 r3 s3 q3 => ?_⟩
  have r1' := (r1.grow g2).grow g3
  have r2' := r2.grow g3
  match u, i, r2', r3, q3 with
  | .d _, _, _, _, q3 => exact q3.elim
  | .exc _ _, _, _, _, q3 => exact q3.elim
  | .ref _, .ref _, _, _, q3 => exact q3.elim
  | .ref _, .exc _ _, _, _, q3 => exact q3.elim
  | .ref n, .d di, r2', r3, q3 =>
    cases di with
    | int k =>
      have q4 : endsS T X.K m3 H3 D Wx (match w3[n]? with
        | some (.mix vs) => (match Pv.ixN vs.length k with
          | some j => if elOk n v then .mk (.next iσ) (w3.set n (.mix (vs.set j v))) else .no
          | none => .no)
        | _ => .no) := q3
      split at q4
      case h_2 => exact q4.elim
      rename_i vs hc
      cases hj : Pv.ixN vs.length k with
      | none => rw [hj] at q4; exact q4.elim
      | some j =>
      rw [hj] at q4
      dsimp only at q4
      by_cases he0 : elOk n v = true
      · rw [if_pos he0] at q4
        obtain ⟨a, ha, rfl⟩ := r2'
        obtain ⟨xs, he, pr⟩ := s3.w.at_ n _ a hc ha
        cases (show Fz _ _ _ _ from r3)
        refine ⟨a, xs, k, j, rfl, rfl, he, by rw [← Paired.length pr]; exact hj, ?_⟩
        have g : Ext H3 m3 (upd H3 a (.lst (xs.set j vx))) m3 := Ext.set he trivial (List.mem_of_getElem? ha)
        refine q4 σ _ m3 g (s3.grow g (s3.w.set ha he trivial ⟨_, upd_same, ?_⟩))
        refine Paired.mapP (paired_set j pr (?_ : RelE X.K m3 n H3 v vx)) fun _ _ h => h.move g.toGrow fun _ _ _ z => z
        cases v with
        | d x => exact r1'
        | ref i => exact ⟨of_decide_eq_true he0, r1'⟩
        | exc c x => exact r1'
      · rw [if_neg he0] at q4; exact q4.elim
    | _ => exact q3.elim
def rGetL (K : PySem.W.Frag) : V → V → Hp → VK → Prop := fun o i H Q => ∃ p xs k v, o = .ref p ∧ i = .int k ∧ SqL K H p xs ∧ atI xs k = some v ∧ Q v H
theorem get_list {X : Cx} : PGet X (rGetL X.K) := by
  intro pins s σ H o i ov iv Q I ro ri h
  obtain ⟨p, xs, k, v, rfl, rfl, hq, he, q⟩ := h
  cases ro
  obtain ⟨t, rfl⟩ := ri
  obtain ⟨its, r, pl, hz⟩ := I.list hq
  obtain ⟨j, h1, h2, h3, h4, h5⟩ := atI_get he
  obtain ⟨w, ew, rw'⟩ := r.get h2
  have hl := r.length
  have hn := line63
  have fin : EP X pins σ Q w s := ⟨v, H, I, rw', q⟩
  by_cases h0 : 0 ≤ k
  · have hj : k.toNat = j := by
      rw [seqIndex_of h0 h5] at h1
      exact Option.some.inj h1
    exact wpAny_getItem_list pl.isList h0 (by omega) (by rw [hj]; simpa using ew) fin
  · have hj : (k + (its.toArray.size : Int)).toNat = j := by
      rw [seqIndex_neg (by omega) h4] at h1
      rw [List.size_toArray, ← hl]
      exact Option.some.inj h1
    exact wpAny_getItem_list_neg pl.isList (by omega) (by rw [List.size_toArray] <;> omega) (by omega) (by rw [hj]; simpa using ew) fin
theorem sS_auix (ho : I_ T X Wx y fo) (hi : I_ T X Wx z fx) (hx : I_ T X Wx x fe) (hn : notSlice z = true) :
    S_ T X Wx (.AugAssign (.Subscript y z p) .Add x pos) fun σ w => onE (fo σ w) σ fun u w1 => onE (fx σ w1) σ fun i w2 => (match u, i with
    | .ref n, .d ix => (match (rdC w2[n]?).bind fun x => subD x ix with
      | some old => onE (fe σ w2) σ fun v w3 => (match v with
        | .d x => (match Operator.Add, old, x, w3[n]? with
          | .Add, .int a, .int b, some (.lst xs) => (match stL xs ix (.int (a + b)) with
            | some ys => .mk (.next σ) (w3.set n (.lst ys))
            | none => .no)
          | _, _, _, _ => .no)
        | _ => .no)
      | none => .no)
    | _, _ => .no) := by
  refine PS.imp (ps_augS ho hi get_list hx ip_add set_list (by cases z <;> first | (intros; rfl) | exact no2 hn)) fun D σ H ⟨ms, iσ, w, s, q⟩ => ⟨ms, iσ, w, s, stepS s q fun u w1 ux H1 m1 _ g1 r1 s1 q1 => ?_⟩
  refine ⟨m1, iσ, w1, s1, stepS s1 q1 fun i w2 ix H2 m2 _ g2 r2 s2 q2 => ?_⟩
  have r1' := r1.grow g2
  match u, i, r1', r2, q2 with
  | .d _, _, _, _, q2 => exact q2.elim
  | .exc _ _, _, _, _, q2 => exact q2.elim
  | .ref _, .ref _, _, _, q2 => exact q2.elim
  | .ref _, .exc _ _, _, _, q2 => exact q2.elim
  | .ref n, .d di, r1', r2, q2 =>
    have q3 : endsS T X.K m2 H2 D Wx (match (rdC w2[n]?).bind fun x => subD x di with
      | some old => onE (fe iσ w2) iσ fun v w3 => (match v with
        | .d x => (match Operator.Add, old, x, w3[n]? with
          | .Add, .int a, .int b, some (.lst xs) => (match stL xs di (.int (a + b)) with
            | some ys => .mk (.next iσ) (w3.set n (.lst ys))
            | none => .no)
          | _, _, _, _ => .no)
        | _ => .no)
      | none => .no) := q2
    cases hr : rdC w2[n]? with
    | none => rw [hr] at q3; exact q3.elim
    | some dx =>
    rw [hr] at q3
    obtain ⟨ds, hc⟩ : ∃ ds, w2[n]? = some (.lst ds) := by
      unfold rdC at hr
      split at hr
      · exact ⟨_, by assumption⟩
      · cases hr
    rw [hc] at hr
    cases hr
    cases di with
    | int k =>
      have q4 : endsS T X.K m2 H2 D Wx (match (Pv.ixN ds.length k).bind fun j => ds[j]? with
        | some old => onE (fe iσ w2) iσ fun v w3 => (match v with
          | .d x => (match Operator.Add, old, x, w3[n]? with
            | .Add, .int a, .int b, some (.lst xs) => (match stL xs (.int k) (.int (a + b)) with
              | some ys => .mk (.next iσ) (w3.set n (.lst ys))
              | none => .no)
            | _, _, _, _ => .no)
          | _ => .no)
        | none => .no) := q3
      obtain ⟨a, xs, rfl, hn', he, f⟩ := cell_lst r1' s2.w hc
      cases (show Fz _ _ _ _ from r2)
      cases hj : Pv.ixN ds.length k with
      | none => rw [hj] at q4; exact q4.elim
      | some j =>
      rw [hj, Option.bind_some] at q4
      cases ho : ds[j]? with
      | none => rw [ho] at q4; exact q4.elim
      | some old =>
      rw [ho] at q4
      obtain ⟨vo, hvo, fo'⟩ := f.get ho
      refine ⟨a, xs, k, vo, rfl, rfl, .of he, ?_, ⟨m2, iσ, w2, s2, stepS s2 q4 fun v w3 vx H3 m3 _ g3 r3 s3 q5 => ?_⟩⟩
      · unfold atI
        rw [f.length]
        show (Pv.ixN ds.length k).bind _ = _
        rw [hj]
        exact hvo
      · cases v with
        | ref _ => exact q5.elim
        | exc _ _ => exact q5.elim
        | d dv =>
        have q6 : endsS T X.K m3 H3 D Wx (match (generalizing := false) Operator.Add, old, dv, w3[n]? with
            | .Add, .int a, .int b, some (.lst xs) => (match stL xs (.int k) (.int (a + b)) with
              | some ys => .mk (.next iσ) (w3.set n (.lst ys))
              | none => .no)
            | _, _, _, _ => .no) := q5
        split at q6
        case h_2 => exact q6.elim
        rename_i ia ib ds' _ hc' _
        obtain ⟨a', xs', e', hn2, he', f'⟩ := cell_lst (r1'.grow g3) s3.w hc'
        have ea : a = a' := by cases e'; rfl
        subst ea
        cases fo'
        cases (show Fz _ _ _ _ from r3)
        refine ⟨ia, ib, rfl, rfl, ?_⟩
        unfold stL at q6
        dsimp only at q6
        cases hj' : Pv.ixN ds'.length k with
        | none => rw [hj'] at q6; exact q6.elim
        | some j' =>
          rw [hj'] at q6
          refine ⟨a, xs', k, j', rfl, rfl, he', by rw [f'.length]; exact hj', ?_⟩
          have g : Ext H3 m3 (upd H3 a (.lst (xs'.set j' (.int (ia + ib))))) m3 := Ext.set he' trivial (List.mem_of_getElem? hn2)
          exact q6 σ _ m3 g (s3.grow g (s3.w.set hn2 he' trivial ⟨_, upd_same, (FzAll.set (Fz.int _) j' f').grow g.toGrow⟩))
    | _ => exact q3.elim
theorem for_dat {K : PySem.W.Frag} {t : Tg} {xs : List PyData} {J : L2.It} {D : Ends} {ms : List Addr} {H1 : Hp} {iσ : Sl} {σ : List (Option V)} {w : W} (s : Sim T K ms H1 iσ σ w) (hw : WalkD K H1 xs J)
    (h : endsS T K ms H1 D Wx (forL (fun x σ w => match asgT t x σ with
        | some σ1 => fb σ1 w
        | none => .no) xs iσ w)) :
    ∃ Wv : Nat → Nat → L2.St → Hp → Prop, (∃ m, Wv 0 m σ H1) ∧ ∀ i m σ H, Wv i m σ H → (J.stop i H ∧ D.nx σ H) ∨ (J.go i H ∧ ∃ N : L2.St → Hp → Prop, (∀ σ' H', N σ' H' → ∃ m', m' < m ∧ Wv (i + 1) m' σ' H') ∧ ∀ x H', J.yld i H x H' → gI T K t x σ H' fun σ2 H2 => tS T K Wx fb { D with nx := N, ct := N, bk := D.nx } σ2 H2) := by
  let F : PyData → Sl → W → RS := fun x σ w => match asgT t x σ with
        | some σ1 => fb σ1 w
        | none => .no
  let Wv : Nat → Nat → L2.St → Hp → Prop := fun i m σ H => m + i = xs.length ∧ Grow H1 H ∧ ∃ ms iσ w, Sim T K ms H iσ σ w ∧ endsS T K ms H D Wx (forL F (xs.drop i) iσ w)
  refine ⟨Wv, ⟨xs.length, rfl, Grow.refl _, ms, iσ, w, s, h⟩, ?_⟩
  rintro i m σ H ⟨hm, gr, ms, iσ, w, s, h⟩
  obtain ⟨w1, w2⟩ := hw H gr
  by_cases hlt : i < xs.length
  · obtain ⟨k1, k2⟩ := w1 i xs[i] (List.getElem?_eq_getElem hlt)
    refine .inr ⟨k1, fun σ' H' => Wv (i + 1) (m - 1) σ' H', fun σ' H' p => ⟨m - 1, by omega, p⟩, fun x H' y => ?_⟩
    obtain ⟨e1, e2, e3⟩ := k2 x H' y
    have dr : xs.drop i = xs[i] :: xs.drop (i + 1) := List.drop_eq_getElem_cons hlt
    rw [dr] at h
    have gx : Ext H ms H' ms := e1 ms
    have s1 : Sim T K ms H' iσ σ w := s.grow gx (s.w.move gx.toGrow fun a _ u q => e2 a u q)
    cases ha : asgT t xs[i] iσ with
    | none =>
      have e : F xs[i] iσ w = .no := by show (match asgT t xs[i] iσ with | some σ1 => fb σ1 w | none => RS.no) = _; rw [ha]
      unfold forL at h; rw [e] at h; exact h.elim
    | some σ1 =>
    refine ⟨ms, iσ, w, _, σ1, s1, e3, ha, fun σ' s' _ => ⟨ms, σ1, w, s', ?_⟩⟩
    have e : F xs[i] iσ w = fb σ1 w := by show (match asgT t xs[i] iσ with | some σ1 => fb σ1 w | none => RS.no) = _; rw [ha]
    unfold forL at h; rw [e] at h
    have go : ∀ σ2 w2, endsS T K ms H D Wx (forL F (xs.drop (i + 1)) σ2 w2) → ∀ σ'' H2 m2, Ext H' ms H2 m2 → Sim T K m2 H2 σ2 σ'' w2 → Wv (i + 1) (m - 1) σ'' H2 := fun σ2 w2 h2 σ'' H2 m2 g2 s2 =>
      ⟨by omega, gr.trans (gx.trans g2).toGrow, m2, σ2, w2, s2, h2.grow (gx.trans g2)⟩
    cases hr : fb σ1 w with
    | no => rw [hr] at h; exact h.elim
    | mk f w3 =>
      rw [hr] at h
      cases f with
      | next σ2 => exact go σ2 w3 h
      | cnt σ2 => exact go σ2 w3 h
      | brk σ2 => exact (endsS.grow gx h : endsS T K ms H' D Wx (.mk (.next σ2) w3))
      | ret v => exact (endsS.grow gx h : endsS T K ms H' D Wx (.mk (.ret v) w3))
      | exc c x σ2 => exact (endsS.grow gx h : endsS T K ms H' D Wx (.mk (.exc c x σ2) w3))
  · have dr : xs.drop i = [] := List.drop_eq_nil_of_le (by omega)
    rw [dr] at h
    exact .inl ⟨w2 i (by omega), h σ H ms (Ext.refl _ _) s⟩
theorem for_cel {K : PySem.W.Frag} {t : Tg} {n q0 : Nat} {a : Addr} {D : Ends} {ms : List Addr} {H1 : Hp} {iσ : Sl} {σ : List (Option V)} {w : W} (s : Sim T K ms H1 iσ σ w) (hn : ms[n]? = some a)
    (h : endsS T K ms H1 D Wx (forC (fun x σ w => match asgT t x σ with
        | some σ1 => fb σ1 w
        | none => .no) n q0 0 iσ w)) :
    ∃ Wv : Nat → Nat → L2.St → Hp → Prop, (∃ m, Wv 0 m σ H1) ∧ ∀ i m σ H, Wv i m σ H → ((Itl K a).stop i H ∧ D.nx σ H) ∨ ((Itl K a).go i H ∧ ∃ N : L2.St → Hp → Prop, (∀ σ' H', N σ' H' → ∃ m', m' < m ∧ Wv (i + 1) m' σ' H') ∧ ∀ x H', (Itl K a).yld i H x H' → gI T K t x σ H' fun σ2 H2 => tS T K Wx fb { D with nx := N, ct := N, bk := D.nx } σ2 H2) := by
  let F : PyData → Sl → W → RS := fun x σ w => match asgT t x σ with
        | some σ1 => fb σ1 w
        | none => .no
  let Wv : Nat → Nat → L2.St → Hp → Prop := fun i m σ H => ∃ ms iσ w, ms[n]? = some a ∧ Sim T K ms H iσ σ w ∧ endsS T K ms H D Wx (forC F n m i iσ w)
  refine ⟨Wv, ⟨q0, ms, iσ, w, hn, s, h⟩, ?_⟩
  rintro i m σ H ⟨ms, iσ, w, hn, s, h⟩
  cases m with
  | zero => exact h.elim
  | succ m =>
  unfold forC at h
  split at h
  case h_2 => exact h.elim
  rename_i xs hc
  obtain ⟨b, hb, us, hb2, fus⟩ : ∃ b, ms[n]? = some b ∧ ∃ us, H b = some (.lst us) ∧ FzAll K H us xs := by
    obtain ⟨b, h1, us, h2, h3⟩ := s.w.get hc
    exact ⟨b, h1, us, h2, h3⟩
  have eb : b = a := Option.some.inj (hb.symm.trans hn)
  subst eb
  cases hx : xs[i]? with
  | none =>
    rw [hx] at h
    exact .inl ⟨⟨us, .inl (.inl hb2), by rw [fus.length]; exact List.getElem?_eq_none_iff.mp hx⟩, h σ H ms (Ext.refl _ _) s⟩
  | some d =>
    rw [hx] at h
    obtain ⟨v, hv, fv⟩ := fus.get hx
    refine .inr ⟨⟨us, v, .inl (.inl hb2), hv⟩, fun σ' H' => Wv (i + 1) m σ' H', fun σ' H' p => ⟨m, by omega, p⟩, fun x H' y => ?_⟩
    obtain ⟨rfl, y⟩ := y
    have e : v = x := Option.some.inj (hv.symm.trans (y us (.inl (.inl hb2))))
    subst e
    dsimp only at h
    cases ha : asgT t d iσ with
    | none =>
      have e : F d iσ w = .no := by show (match asgT t d iσ with | some σ1 => fb σ1 w | none => RS.no) = _; rw [ha]
      rw [e] at h; exact h.elim
    | some σ1 =>
    refine ⟨ms, iσ, w, _, σ1, s, fv, ha, fun σ' s' _ => ⟨ms, σ1, w, s', ?_⟩⟩
    have e : F d iσ w = fb σ1 w := by show (match asgT t d iσ with | some σ1 => fb σ1 w | none => RS.no) = _; rw [ha]
    rw [e] at h
    have go : ∀ σ2 w2, endsS T K ms H' D Wx (forC F n m (i + 1) σ2 w2) → ∀ σ'' H2 m2, Ext H' ms H2 m2 → Sim T K m2 H2 σ2 σ'' w2 → Wv (i + 1) m σ'' H2 := fun σ2 w2 h2 σ'' H2 m2 g2 s2 =>
      ⟨m2, σ2, w2, g2.get hn, s2, h2.grow g2⟩
    cases hr : fb σ1 w with
    | no => rw [hr] at h; exact h.elim
    | mk f w3 =>
      rw [hr] at h
      cases f with
      | next σ2 => exact go σ2 w3 h
      | cnt σ2 => exact go σ2 w3 h
      | brk σ2 => exact (h : endsS T K ms H' D Wx (.mk (.next σ2) w3))
      | ret v => exact (h : endsS T K ms H' D Wx (.mk (.ret v) w3))
      | exc c x σ2 => exact (h : endsS T K ms H' D Wx (.mk (.exc c x σ2) w3))
theorem sS_for {t : Tg} {q0 : Nat} (hp : PassesOwn (model X.prog X.w) X.A X.env X.xe) (hc : X.calm = true) (hi : PI X tg x (tII T X.K Wx fi)) (hg : PG X tg (gI T X.K t)) (hb : B_ T X Wx b fb) (hs : ∀ v, foldedSetIterable x X.env v = pure v) :
    S_ T X Wx (.For tg x b [] pos) fun σ w => onE (fi σ w) σ fun J w1 => (match J with
      | .dat xs => if okL xs.length then forL (fun x σ w => match asgT t x σ with
          | some σ1 => fb σ1 w
          | none => .no) xs σ w1 else .no
      | .cel n => forC (fun x σ w => match asgT t x σ with
          | some σ1 => fb σ1 w
          | none => .no) n q0 0 σ w1) := by
  refine PS.imp (ps_for hp hc hi hg hb hs) fun D σ H ⟨ms, iσ, w, s, q⟩ => ⟨ms, iσ, w, s, stepS s q fun J w1 j H1 m1 _ g1 r1 s1 q1 => ?_⟩
  cases J with
  | dat xs =>
    have q2 : endsS T X.K m1 H1 D Wx (if okL xs.length then forL (fun x σ w => match asgT t x σ with
          | some σ1 => fb σ1 w
          | none => .no) xs iσ w1 else .no) := q1
    split at q2
    · exact for_dat s1 r1 q2
    · exact q2.elim
  | cel n =>
    obtain ⟨a, hn, rfl⟩ := r1
    exact for_cel s1 hn q1
theorem sS_whl {q0 : Nat} (hp : PassesOwn (model X.prog X.w) X.A X.env X.xe) (hc : T_ T X Wx x fe) (hb : B_ T X Wx b fb) :
    S_ T X Wx (.While x b [] pos) fun σ w => whlL (fun σ w => fe σ w) (fun σ w => fb σ w) q0 σ w := by
  refine PS.imp (ps_while hp hc hb) fun D σ H ⟨ms, iσ, w, s, q⟩ => ?_
  let Wv : Nat → L2.St → Hp → Prop := fun m σ H => ∃ ms iσ w, Sim T X.K ms H iσ σ w ∧ endsS T X.K ms H D Wx (whlL (fun σ w => fe σ w) (fun σ w => fb σ w) m iσ w)
  refine ⟨Wv, ⟨q0, ms, iσ, w, s, q⟩, ?_⟩
  rintro m σ H ⟨ms, iσ, w, s, h⟩
  cases m with
  | zero => exact h.elim
  | succ m =>
  unfold whlL at h
  refine ⟨ms, iσ, w, s, stepT s h fun k w1 H1 m1 g1 s1 q1 => ⟨k, rfl, ?_⟩⟩
  cases k with
  | false => exact q1 σ H1 m1 (Ext.refl _ _) s1
  | true =>
    have q2 : endsS T X.K m1 H1 D Wx (match fb iσ w1 with
      | .mk (.next σ1) w2 => whlL (fun σ w => fe σ w) (fun σ w => fb σ w) m σ1 w2
      | .mk (.cnt σ1) w2 => whlL (fun σ w => fe σ w) (fun σ w => fb σ w) m σ1 w2
      | .mk (.brk σ1) w2 => .mk (.next σ1) w2
      | o => o) := q1
    refine ⟨fun σ' H' => Wv m σ' H', fun σ' H' p => ⟨m, Nat.lt_succ_self m, p⟩, m1, iσ, w1, s1, ?_⟩
    have go : ∀ σ2 w2, endsS T X.K m1 H1 D Wx (whlL (fun σ w => fe σ w) (fun σ w => fb σ w) m σ2 w2) → ∀ σ'' H2 m2, Ext H1 m1 H2 m2 → Sim T X.K m2 H2 σ2 σ'' w2 → Wv m σ'' H2 := fun σ2 w2 h2 σ'' H2 m2 g2 s2 => ⟨m2, σ2, w2, s2, h2.grow g2⟩
    cases hr : fb iσ w1 with
    | no => rw [hr] at q2; exact q2.elim
    | mk f w3 =>
      rw [hr] at q2
      cases f with
      | next σ2 => exact go σ2 w3 q2
      | cnt σ2 => exact go σ2 w3 q2
      | brk σ2 => exact (q2 : endsS T X.K m1 H1 D Wx (.mk (.next σ2) w3))
      | ret v => exact (q2 : endsS T X.K m1 H1 D Wx (.mk (.ret v) w3))
      | exc c x σ2 => exact (q2 : endsS T X.K m1 H1 D Wx (.mk (.exc c x σ2) w3))
end
end Pv
namespace Pv
open PySem PySem.Spec PyProof.Rows L2 RZ
def isComp : Expr → Bool
  | .ListComp _ _ _ _ => true
  | .SetComp _ _ _ _ => true
  | .DictComp _ _ _ _ _ => true
  | _ => false
def notTup : Expr → Bool
  | .Tuple _ _ _ => false
  | _ => true
def swN (ts vs : List Expr) (sc : Scope) : Option (Option (List Str)) :=
  if !(ts.length == 2 || ts.length == 3) || vs.length != ts.length then some none else
  if vs.any (fun | .Starred .. => true | _ => false) then some none else
  if (ts.filterMap fun
    | .Name id pos => if sc.names.lookup id == some .local && pos.line == (ts.head?.map (·.pos.line)).getD 0 then some id else none
    | _ => none).length != ts.length || (ts.filterMap fun
    | .Name id pos => if sc.names.lookup id == some .local && pos.line == (ts.head?.map (·.pos.line)).getD 0 then some id else none
    | _ => none).eraseDups.length != (ts.filterMap fun
    | .Name id pos => if sc.names.lookup id == some .local && pos.line == (ts.head?.map (·.pos.line)).getD 0 then some id else none
    | _ => none).length then some none else
  if vs.all (foldedForSure 8) then some none else
  if vs.all (constantsAlone 8) then none else some (some (ts.filterMap fun
    | .Name id pos => if sc.names.lookup id == some .local && pos.line == (ts.head?.map (·.pos.line)).getD 0 then some id else none
    | _ => none))
theorem block_fn {env : Env} (hk : env.scope.kind = .function) : env.blockKind = .function := by unfold Env.blockKind; rw [hk]; rfl
theorem swN_ok {ts vs : List Expr} {env : Env} {k k2 : Nat} {p p2 : Pos} {r : Option (List Str)} (hk : env.scope.kind = .function) (h : swN ts vs env.scope = some r) :
    swappedStores [.Tuple ts k p] (.Tuple vs k2 p2) env = pure r := by
  have hb := block_fn hk
  unfold swN at h
  unfold swappedStores
  dsimp only
  simp only [hb, Env.kindOf]
  split at h
  · cases h
    rename_i h1
    exact if_pos (by simpa using h1)
  · rename_i h1
    refine (if_neg (by simpa using h1)).trans ?_
    split at h
    · cases h
      rename_i h2
      exact if_pos h2
    · rename_i h2
      refine (if_neg h2).trans ?_
      split at h
      · cases h
        rename_i h3
        exact if_pos h3
      · rename_i h3
        refine (if_neg h3).trans ?_
        split at h
        · cases h
          rename_i h4
          exact if_pos h4
        · rename_i h4
          refine (if_neg h4).trans ?_
          split at h
          · cases h
          · cases h
            rename_i h5
            exact (if_neg h5).trans rfl
theorem sw_none {tg x : Expr} {env : Env} (h : notTup tg = true ∨ notTup x = true) (h2 : (match tg with | .List _ _ => false | _ => true) = true) : swappedStores [tg] x env = pure none := by
  rcases h with h | h
  · cases tg <;> first | exact no2 h | exact no2 h2 | (cases x <;> rfl)
  · cases x <;> first | exact no2 h | (cases tg <;> rfl)
def swC (sc : Scope) (t : Str) (tp : Pos) (bs : Scope) (vp : Pos) : Bool := sc.names.lookup t == some .local && tp.line == vp.line && !(bs.names.any fun (n, k) => n == t && (k == .local || k == .cell))
theorem swC_ok {env : Env} {el : Expr} {gens : List Comprehension} {bs : Scope} {vp tp : Pos} {t : Str} {l : Nat} (hk : env.scope.kind = .function) : swapsWith (.ListComp el gens bs vp) (some (.Name t tp)) l env = pure (swC env.scope t tp bs vp) := by
  have hb := block_fn hk
  unfold swapsWith swC
  simp only [hb, Env.kindOf, Expr.pos]
  rfl
theorem sw_plain {x : Expr} {o : Option Expr} {l : Nat} {env : Env} (h : isComp x = false) : swapsWith x o l env = pure false := by
  cases x <;> first | rfl | cases h
theorem sw_other {x tg : Expr} {l : Nat} {env : Env} (h : (match tg with | .Name _ _ => false | _ => true) = true) : swapsWithSole [tg] x l env = pure false := by
  cases tg <;> first | exact no2 h | (cases x <;> rfl)
def slotsOf (N : List Str) : List Nat → List Expr → Bool
  | [], [] => true
  | i :: is, .Name x _ :: es => decide (N[i]? = some x) && slotsOf N is es
  | _, _ => false
def isTup : Tg → Bool
  | .tup _ => true
  | _ => false
def mPar (is : List Nat) (es : Ex) (c : Cc) : Stmt → Bool
  | .Assign [.Tuple [.Name n px, .Name n' py] kk p] (.Tuple [e, e'] k2 p2) _ => (match is with
    | [i, j] => decide (c.N[i]? = some n) && decide (c.N[j]? = some n') && decide (i ≠ j) && justL c.sc n && justL c.sc n' && decide (swN [.Name n px, .Name n' py] [e, e'] c.sc = some (some [n, n'])) && mA es c [e, e'] ||
        (decide (c.N[i]? = some n) && decide (c.N[j]? = some n') && locB c.sc n && locB c.sc n' && decide (swN [.Name n px, .Name n' py] [e, e'] c.sc = some none) && mA es c [e, e'])
    | _ => false)
  | .Assign [.Tuple [.Name n px, .Name n' py, .Name n'' pz] kk p] (.Tuple [e, e', e''] k2 p2) _ => (match is with
    | [i, j, l] => decide (c.N[i]? = some n) && decide (c.N[j]? = some n') && decide (c.N[l]? = some n'') && decide (i ≠ j) && decide (i ≠ l) && decide (j ≠ l) && justL c.sc n && justL c.sc n' && justL c.sc n'' && decide (swN [.Name n px, .Name n' py, .Name n'' pz] [e, e', e''] c.sc = some (some [n, n', n''])) && mA es c [e, e', e'']
    | _ => false)
  | _ => false
def mStix (o ix e : Ex) (c : Cc) : Stmt → Bool
  | .Assign [.Subscript y z _] x _ => notSlice z && mE e c x && mE o c y && mE ix c z
  | _ => false
def mAuix (op : Operator) (o ix e : Ex) (c : Cc) : Stmt → Bool
  | .AugAssign (.Subscript y z _) .Add x _ => decide (op = .Add) && notSlice z && mE o c y && mE ix c z && mE e c x
  | _ => false
mutual
def mS : St → Cc → Stmt → Bool
  | .stuck, _, _ => true
  | .pass, _, .Pass _ => true
  | .pass, _, .Expr (.Constant (.str _) _ _) _ => true
  | .brk, _, .Break _ => true
  | .cnt, _, .Continue _ => true
  | .expr e, c, .Expr x _ => !isComp x && mE e c x
  | .ret e, c, .Return (some x) _ => mE e c x
  | .retN, _, .Return none _ => true
  | .asg (.nm i) e, c, .Assign [.Name n np] x _ => decide (c.N[i]? = some n) && locB c.sc n && mE e c x && (match x with
      | .ListComp _ _ bs vp => true
      | _ => !isComp x)
  | .asg (.tup ts) e, c, .Assign [.Tuple es kk p] x _ => mT c (.tup ts) (.Tuple es kk p) && mE e c x && (match x with
      | .Tuple vs _ _ => (match swN es vs c.sc with
        | some none => true
        | _ => false)
      | _ => true)
  | .par is es, c, st => mPar is es c st
  | .stix o ix e, c, st => mStix o ix e c st
  | .stixm o ix e, c, st => mStix o ix e c st
  | .auix op o ix e, c, st => mAuix op o ix e c st
  | .ifs e a b, c, .If x xs ys _ => tOk e && mE e c x && mB a c xs && mB b c ys
  | .for_ t it b, c, .For tg x xs [] _ => notSet x && mI it c tg x && mT c t tg && mB b c xs
  | .whl e b, c, .While x xs [] _ => tOk e && mE e c x && mB b c xs
  | _, _, _ => false
def mB : St → Cc → List Stmt → Bool
  | .nil, _, [] => true
  | .cons s r, c, x :: xs => mS s c x && mB r c xs
  | _, _, _ => false
end
structure Gp (T : Tab) (c : Cc) (E : En) (X : Cx) (Wx : WX) (k : Nat) : Prop extends Gd T c E X Wx k where
  scE : X.env.scope = c.sc
  own : PassesOwn (model X.prog X.w) X.A X.env X.xe
structure OkS (T : Tab) (E : En) (k : Nat) (u : St) : Prop where
  s : ∀ c X Wx st, Gp T c E X Wx k → mS u c st = true → S_ T X Wx st (evS E u)
  b : ∀ c X Wx sts, Gp T c E X Wx k → mB u c sts = true → B_ T X Wx sts (evS E u)
theorem isE_b {u : St} {c : Cc} {xs : List Stmt} (hu : ∀ s r, u ≠ .cons s r) (hn : u ≠ .nil) (h : mB u c xs = true) : False := by
  cases u <;> first | exact absurd rfl (hu _ _) | exact absurd rfl hn | exact no2 h
theorem OkS.st {T : Tab} {E : En} {k : Nat} {u : St} (hu : ∀ s r, u ≠ .cons s r) (hn : u ≠ .nil) (hs : ∀ c X Wx st, Gp T c E X Wx k → mS u c st = true → S_ T X Wx st (evS E u)) : OkS T E k u :=
  ⟨hs, fun _ _ _ _ _ h => (isE_b hu hn h).elim⟩
theorem justL_of {sc : Scope} {x : Str} (h : justL sc x = true) : sc.names.lookup x = some .local := by
  unfold justL at h
  split at h
  · assumption
  · cases h
end Pv
namespace Pv
open PySem PySem.Spec PyProof.Rows L2 RZ
section
variable {T : Tab} {E : En} {k : Nat}
theorem sS_setLc {c : Cc} {X : Cx} {Wx : WX} {i : Nat} {n : Str} {np pos spos : Pos} {own : List Nat} {t : Tg} {e it d : Ex} {el : Expr} {gens : List Comprehension} {scope : Scope} (g : Gp T c E X Wx k) (hi : c.N[i]? = some n) (hl : c.sc.names.lookup n = some .local)
    (h : mE (.comp own e t it d) c (.ListComp el gens scope pos) = true) (hsw : swapsWith (.ListComp el gens scope pos) (some (.Name n np)) spos.line X.env = pure true) :
    PS X (.Assign [.Name n np] (.ListComp el gens scope pos) spos) fun D σ H => tF T X.K Wx (ev E (.comp own e t it d)) σ H fun x H1 => D.nx (σ.set i (some x)) H1 := by
  obtain ⟨tg, iter, ifs, rfl, h1, h3, h4, h5, h6, h7, h8⟩ := comp_parts h
  have bo := blkOk_by h1
  have hk : scope.kind = .function := bo.kind
  have g' := g.toGd
  have ht : ∀ X', Gd T { c with sc := scope } E X' W0 k → PTs X' ifs (ttF T X'.K (isNil d) (ev E d)) := fun X' g' => ttF_pts (by
    rcases h8 with ⟨h8, rfl⟩ | ⟨h8, z, rfl, h9, h10⟩
    · exact .inl ⟨h8, rfl⟩
    · exact .inr ⟨h8, z, rfl, (oks d).t _ X' W0 _ g' h10 h9⟩)
  refine PS.imp (ps_setLc (i := i) (own := own.map fun i => ((c.N[i]?).getD "", i)) g.calm (by rw [g.N]; exact g.nd) (by rw [g.N]; exact hi) (g.sc.loc n hl) hsw ((oks it).i c X Wx tg iter g' h5) (by rw [g.N]; exact bo.rel g.sc) (g := gI T X.K t) (fun s H C cl fp => sG (T := T) (g'.blk hk s H C cl fp).gs t tg h6) (tt := ttF T X.K (isNil d) (ev E d)) (fun s H C cl fp => ht _ (g'.blk hk s H C cl fp)) (te := tI T X.K W0 (ev E e)) (fun s H C cl fp => (oks e).e _ _ W0 el (g'.blk hk s H C cl fp) h7) (nofold_of h3 X.env)) fun D σ H h => ?_
  rw [own_snd]
  exact lc_read (q0 := E.q) g.gk.q h4 h
theorem ok_asgN {i : Nat} {e : Ex} : OkS T E k (.asg (.nm i) e) := by
  refine .st (by intros; nofun) nofun fun c X Wx st g h => ?_
  cases st with
  | Assign ts x pos =>
    match ts, h with
    | [.Name n np], h =>
      obtain ⟨h1, h4⟩ := a2 (show (decide (c.N[i]? = some n) && locB c.sc n && mE e c x && (match (generalizing := false) x with
        | .ListComp _ _ bs vp => true
        | _ => !isComp x)) = true from h)
      obtain ⟨h1, h3⟩ := a2 h1
      obtain ⟨h1, h2⟩ := a2 h1
      have hi := of_decide_eq_true h1
      have hN : X.N.Nodup := by rw [g.N]; exact g.nd
      have hi' : X.N[i]? = some n := by rw [g.N]; exact hi
      have l := loc_of h2
      have l' : Loc X.env.scope n := by rw [g.scE]; exact l
      have lf : X.fn n = true ∨ X.env.scope.names.lookup n = some .local := by
        rcases l with l | l
        · exact .inr (by rw [g.scE]; exact l)
        · exact .inl (g.fn n l)
      have plain : swapsWith x (some (.Name n np)) pos.line X.env = pure false → S_ T X Wx (.Assign [.Name n np] x pos) (evS E (.asg (.nm i) e)) := fun hs =>
        PS.imp (sS_set hN hi' l' ((oks e).e c X Wx x g.toGd h3) hs lf) fun D σ H ⟨ms, iσ, w, s, q⟩ => ⟨ms, iσ, w, s, by
          refine cast (congrArg _ ?_) q
          rfl⟩
      cases x with
      | ListComp el gens bs vp =>
        have hk : X.env.scope.kind = .function := by rw [g.scE]; exact g.kind
        have hsw := swC_ok (el := el) (gens := gens) (bs := bs) (vp := vp) (tp := np) (t := n) (l := pos.line) hk
        rw [g.scE] at hsw
        cases hb : swC c.sc n np bs vp with
        | false =>
          rw [hb] at hsw
          exact plain hsw
        | true =>
          rw [hb] at hsw
          have hl : c.sc.names.lookup n = some .local := by
            unfold swC at hb
            simp only [Bool.and_eq_true] at hb
            exact eq_of_beq hb.1.1
          cases e with
          | comp own e t it d =>
            refine PS.imp (ps_fast (sS_setLc g hi hl h3 hsw)) fun D σ H ⟨ms, iσ, w, s, q⟩ => ⟨ms, iσ, w, s, ?_⟩
            have q0 : endsS T X.K ms H D Wx (onE (ev E (.comp own e t it d) iσ w) iσ fun v w1 => .mk (.next (iσ.set i (some v))) w1) := q
            refine stepS s q0 fun v w1 u H1 m1 ef g1 r1 s1 q1 => ?_
            rw [ef] at q0
            have q2 : endsS T X.K ms H D Wx (.mk (.next (iσ.set i (some v))) w1) := q0
            rcases RelF.cases r1 with ⟨ds, a, xs, rfl, rfl, h0, hn, he, fz⟩ | ⟨hn, r⟩
            · refine .inl ⟨a, xs, he, fun o => ?_⟩
              have gr : Grow H1 (upd H1 a (.frz o (.lst xs))) := Grow.set he trivial
              have gx : Ext H ms (upd H1 a (.frz o (.lst xs))) m1 := g1.later h0 he trivial
              exact q2 _ _ m1 gx ((s.grow gx (s1.w.keep he trivial hn)).set (v := .d (.list ds)) (show Fz _ _ _ _ from .lst ⟨o, upd_same⟩ (fz.grow gr)))
            · exact .inr (set_end s1 r q1)
          | new a =>
            obtain ⟨f1, f2⟩ := a2 (show (fresh a && mE a c (.ListComp el gens bs vp)) = true from h3)
            cases a with
            | comp own e t it d =>
              refine PS.imp (sS_setLc g hi hl f2 hsw) fun D σ H ⟨ms, iσ, w, s, q⟩ => ⟨ms, iσ, w, s, ?_⟩
              have q0 : endsS T X.K ms H D Wx (onE ((ev E (.comp own e t it d) iσ w).bind fun v w1 => newW w1 v) iσ fun v w1 => .mk (.next (iσ.set i (some v))) w1) := q
              cases hf : ev E (.comp own e t it d) iσ w with
              | no => rw [hf] at q0; exact q0
              | exc cc xx w1 => rw [hf] at q0; exact fun dd v H2 m2 g2 e f2 w2 => q0 σ dd v H2 m2 g2 e f2 (s.grow g2 w2)
              | ok v w1 =>
              rw [hf] at q0
              intro u H1 m1 g1 r1 w1'
              have q1 : endsS T X.K ms H D Wx (onE (newW w1 v) iσ fun v w1 => .mk (.next (iσ.set i (some v))) w1) := q0
              rcases RelF.cases r1 with ⟨ds, a, xs, rfl, rfl, h0, hn, he, fz⟩ | ⟨hn, r⟩
              · have gx : Ext H ms H1 (m1 ++ [a]) := g1.cell h0
                exact q1 _ H1 (m1 ++ [a]) gx ((s.grow gx (w1'.push (c := .lst ds) hn ⟨xs, he, fz⟩)).set (v := .ref w1.length) ⟨a, by rw [List.getElem?_append_right (by rw [w1'.len]; exact Nat.le_refl _), w1'.len]; simp, rfl⟩)
              · unfold newW at q1
                split at q1
                · exact absurd rfl (hn _)
                · exact q1.elim
            | _ => first | exact no2 f1 | exact no2 f2
          | mth m a es => cases a <;> exact no2 h3
          | _ => exact no2 h3
      | _ => first | exact plain (sw_plain (by simpa using h4)) | exact no2 h4
    | [], h => exact no2 h
    | .Name _ _ :: _ :: _, h => exact no2 h
    | [.BoolOp ..], h | [.NamedExpr ..], h | [.BinOp ..], h | [.UnaryOp ..], h | [.Lambda ..], h | [.IfExp ..], h | [.Dict ..], h | [.Set ..], h | [.ListComp ..], h | [.SetComp ..], h | [.DictComp ..], h | [.GeneratorExp ..], h | [.Await ..], h | [.Yield ..], h | [.YieldFrom ..], h | [.Compare ..], h | [.Call ..], h | [.FormattedValue ..], h | [.JoinedStr ..], h | [.Constant ..], h | [.Attribute ..], h | [.Subscript ..], h | [.Starred ..], h | [.List ..], h | [.Slice ..], h | [.Tuple ..], h => exact no2 h
    | .BoolOp .. :: _ :: _, h | .NamedExpr .. :: _ :: _, h | .BinOp .. :: _ :: _, h | .UnaryOp .. :: _ :: _, h | .Lambda .. :: _ :: _, h | .IfExp .. :: _ :: _, h | .Dict .. :: _ :: _, h | .Set .. :: _ :: _, h | .ListComp .. :: _ :: _, h | .SetComp .. :: _ :: _, h | .DictComp .. :: _ :: _, h | .GeneratorExp .. :: _ :: _, h | .Await .. :: _ :: _, h | .Yield .. :: _ :: _, h | .YieldFrom .. :: _ :: _, h | .Compare .. :: _ :: _, h | .Call .. :: _ :: _, h | .FormattedValue .. :: _ :: _, h | .JoinedStr .. :: _ :: _, h | .Constant .. :: _ :: _, h | .Attribute .. :: _ :: _, h | .Subscript .. :: _ :: _, h | .Starred .. :: _ :: _, h | .List .. :: _ :: _, h | .Slice .. :: _ :: _, h | .Tuple .. :: _ :: _, h => exact no2 h
  | _ => exact no2 h
theorem asgP {env : Env} {es : List Expr} {kk : Nat} {p : Pos} : (assignEach [.Tuple es kk p] env).map (·.2) = [assign (.Tuple es kk p) env] := rfl
theorem ok_asgT {ts : Tg} {e : Ex} : OkS T E k (.asg (.tup ts) e) := by
  refine .st (by intros; nofun) nofun fun c X Wx st g h => ?_
  cases st with
  | Assign tgs x pos =>
    match tgs, h with
    | [.Tuple es kk p], h =>
      obtain ⟨h1, h4⟩ := a2 (show (mT c (.tup ts) (.Tuple es kk p) && mE e c x && (match (generalizing := false) x with
        | .Tuple vs _ _ => (match swN es vs c.sc with
          | some none => true
          | _ => false)
        | _ => true)) = true from h)
      obtain ⟨h1, h2⟩ := a2 h1
      have hk : X.env.scope.kind = .function := by rw [g.scE]; exact g.kind
      have hw : swappedStores [.Tuple es kk p] x X.env = pure none := by
        cases x with
        | Tuple vs k2 p2 =>
          have h5 : (match swN es vs c.sc with
            | some none => true
            | _ => false) = true := h4
          refine swN_ok hk ?_
          rw [g.scE]
          split at h5
          · assumption
          · cases h5
        | _ => exact sw_none (.inr rfl) rfl
      have ee : evS E (.asg (.tup ts) e) = fun σ w => onE (ev E e σ w) σ fun v w1 => (match v with
        | .d x => ofS (asgT (.tup ts) x σ) w1
        | _ => .no) := by
        funext σ w
        show onE (ev E e σ w) σ _ = _
        congr 1
        funext v w1
        cases v <;> rfl
      rw [ee]
      exact sS_tup ((oks e).e c X Wx x g.toGd h2) (sG g.toGd.gs (.tup ts) _ h1) (sw_other rfl) hw asgP
    | [], h => exact no2 h
    | .Tuple .. :: _ :: _, h => exact no2 h
    | [.BoolOp ..], h | [.NamedExpr ..], h | [.BinOp ..], h | [.UnaryOp ..], h | [.Lambda ..], h | [.IfExp ..], h | [.Dict ..], h | [.Set ..], h | [.ListComp ..], h | [.SetComp ..], h | [.DictComp ..], h | [.GeneratorExp ..], h | [.Await ..], h | [.Yield ..], h | [.YieldFrom ..], h | [.Compare ..], h | [.Call ..], h | [.FormattedValue ..], h | [.JoinedStr ..], h | [.Constant ..], h | [.Attribute ..], h | [.Subscript ..], h | [.Starred ..], h | [.List ..], h | [.Slice ..], h | [.Name ..], h => exact no2 h
    | .BoolOp .. :: _ :: _, h | .NamedExpr .. :: _ :: _, h | .BinOp .. :: _ :: _, h | .UnaryOp .. :: _ :: _, h | .Lambda .. :: _ :: _, h | .IfExp .. :: _ :: _, h | .Dict .. :: _ :: _, h | .Set .. :: _ :: _, h | .ListComp .. :: _ :: _, h | .SetComp .. :: _ :: _, h | .DictComp .. :: _ :: _, h | .GeneratorExp .. :: _ :: _, h | .Await .. :: _ :: _, h | .Yield .. :: _ :: _, h | .YieldFrom .. :: _ :: _, h | .Compare .. :: _ :: _, h | .Call .. :: _ :: _, h | .FormattedValue .. :: _ :: _, h | .JoinedStr .. :: _ :: _, h | .Constant .. :: _ :: _, h | .Attribute .. :: _ :: _, h | .Subscript .. :: _ :: _, h | .Starred .. :: _ :: _, h | .List .. :: _ :: _, h | .Slice .. :: _ :: _, h | .Name .. :: _ :: _, h => exact no2 h
  | _ => exact no2 h
theorem ok_par {is : List Nat} {es : Ex} : OkS T E k (.par is es) := by
  refine .st (by intros; nofun) nofun fun c X Wx st g h => ?_
  have h' : mPar is es c st = true := h
  unfold mPar at h'
  have hN : X.N.Nodup := by rw [g.N]; exact g.nd
  have hk : X.env.scope.kind = .function := by rw [g.scE]; exact g.kind
  split at h'
  · rename_i n px n' py kk p e e' k2 p2 pos
    split at h'
    · rename_i i j
      rcases Bool.or_eq_true _ _ ▸ h' with h' | h'
      rotate_left
      · obtain ⟨h1, h6⟩ := a2 h'
        obtain ⟨h1, h5⟩ := a2 h1
        obtain ⟨h1, h4⟩ := a2 h1
        obtain ⟨h1, h3⟩ := a2 h1
        obtain ⟨h1, h2⟩ := a2 h1
        exact sS_ptu2 g.calm hN (by rw [g.N]; exact of_decide_eq_true h1) (by rw [g.N]; exact of_decide_eq_true h2) (sG_nm g.toGd.gs h1 h3) (sG_nm g.toGd.gs h2 h4) ((oks es).a c X Wx _ g.toGd h6) (sw_other rfl) (swN_ok hk (by rw [g.scE]; exact of_decide_eq_true h5))
      obtain ⟨h1, h8⟩ := a2 h'
      obtain ⟨h1, h7⟩ := a2 h1
      obtain ⟨h1, h6⟩ := a2 h1
      obtain ⟨h1, h5⟩ := a2 h1
      obtain ⟨h1, h4⟩ := a2 h1
      obtain ⟨h1, h3⟩ := a2 h1
      exact sS_par2 g.calm hN (by rw [g.N]; exact of_decide_eq_true h1) (by rw [g.N]; exact of_decide_eq_true h3) (of_decide_eq_true h4) (by rw [g.scE]; exact justL_of h5) (by rw [g.scE]; exact justL_of h6) ((oks es).a c X Wx _ g.toGd h8) (swN_ok hk (by rw [g.scE]; exact of_decide_eq_true h7))
    · exact no2 h'
  · rename_i n px n' py n'' pz kk p e e' e'' k2 p2 pos
    split at h'
    · rename_i i j l
      obtain ⟨h1, h12⟩ := a2 h'
      obtain ⟨h1, h11⟩ := a2 h1
      obtain ⟨h1, h10⟩ := a2 h1
      obtain ⟨h1, h9⟩ := a2 h1
      obtain ⟨h1, h8⟩ := a2 h1
      obtain ⟨h1, h7⟩ := a2 h1
      obtain ⟨h1, h6⟩ := a2 h1
      obtain ⟨h1, h5⟩ := a2 h1
      obtain ⟨h1, h4⟩ := a2 h1
      obtain ⟨h1, h3⟩ := a2 h1
      exact sS_par3 g.calm hN (by rw [g.N]; exact of_decide_eq_true h1) (by rw [g.N]; exact of_decide_eq_true h3) (by rw [g.N]; exact of_decide_eq_true h4) (of_decide_eq_true h5) (of_decide_eq_true h6) (of_decide_eq_true h7) (by rw [g.scE]; exact justL_of h8) (by rw [g.scE]; exact justL_of h9) (by rw [g.scE]; exact justL_of h10) ((oks es).a c X Wx _ g.toGd h12) (swN_ok hk (by rw [g.scE]; exact of_decide_eq_true h11))
    · exact no2 h'
  · exact no2 h'
theorem ok_stix {o ix e : Ex} : OkS T E k (.stix o ix e) := by
  refine .st (by intros; nofun) nofun fun c X Wx st g h => ?_
  have h' : mStix o ix e c st = true := h
  unfold mStix at h'
  split at h'
  · rename_i y z p x pos
    obtain ⟨h1, h4⟩ := a2 h'
    obtain ⟨h1, h3⟩ := a2 h1
    obtain ⟨h1, h2⟩ := a2 h1
    exact sS_stix ((oks e).e c X Wx x g.toGd h2) ((oks o).e c X Wx y g.toGd h3) ((oks ix).e c X Wx z g.toGd h4) h1 (sw_other rfl) (sw_none (.inl rfl) rfl)
  · exact no2 h'
theorem ok_stixm {o ix e : Ex} : OkS T E k (.stixm o ix e) := by
  refine .st (by intros; nofun) nofun fun c X Wx st g h => ?_
  have h' : mStix o ix e c st = true := h
  unfold mStix at h'
  split at h'
  · rename_i y z p x pos
    obtain ⟨h1, h4⟩ := a2 h'
    obtain ⟨h1, h3⟩ := a2 h1
    obtain ⟨h1, h2⟩ := a2 h1
    exact sS_stixm ((oks e).e c X Wx x g.toGd h2) ((oks o).e c X Wx y g.toGd h3) ((oks ix).e c X Wx z g.toGd h4) h1 (sw_other rfl) (sw_none (.inl rfl) rfl)
  · exact no2 h'
theorem ok_auix {op : Operator} {o ix e : Ex} : OkS T E k (.auix op o ix e) := by
  refine .st (by intros; nofun) nofun fun c X Wx st g h => ?_
  have h' : mAuix op o ix e c st = true := h
  unfold mAuix at h'
  split at h'
  · rename_i y z p x pos
    obtain ⟨h1, h5⟩ := a2 h'
    obtain ⟨h1, h4⟩ := a2 h1
    obtain ⟨h1, h3⟩ := a2 h1
    obtain ⟨h1, h2⟩ := a2 h1
    have eo := of_decide_eq_true h1
    rw [eo]
    exact sS_auix ((oks o).e c X Wx y g.toGd h3) ((oks ix).e c X Wx z g.toGd h4) ((oks e).e c X Wx x g.toGd h5) h2
  · exact no2 h'
theorem ok_expr {e : Ex} : OkS T E k (.expr e) := by
  refine .st (by intros; nofun) nofun fun c X Wx st g h => ?_
  cases st with
  | Expr x p =>
    obtain ⟨h1, h2⟩ := a2 (show (!isComp x && mE e c x) = true from h)
    exact sS_expr ((oks e).e c X Wx x g.toGd h2) (sw_plain (by simpa using h1))
  | _ => exact no2 h
theorem ok_ret {e : Ex} : OkS T E k (.ret e) := by
  refine .st (by intros; nofun) nofun fun c X Wx st g h => ?_
  cases st with
  | Return x p =>
    cases x with
    | none => exact no2 h
    | some x => exact sS_ret ((oks e).e c X Wx x g.toGd h)
  | _ => exact no2 h
theorem ok_ifs {e : Ex} {a b : St} (ha : OkS T E k a) (hb : OkS T E k b) : OkS T E k (.ifs e a b) := by
  refine .st (by intros; nofun) nofun fun c X Wx st g h => ?_
  cases st with
  | If x xs ys p =>
    obtain ⟨h1, h4⟩ := a2 (show (tOk e && mE e c x && mB a c xs && mB b c ys) = true from h)
    obtain ⟨h1, h3⟩ := a2 h1
    obtain ⟨h1, h2⟩ := a2 h1
    exact sS_if ((oks e).t c X Wx x g.toGd h2 h1) (ha.b c X Wx xs g h3) (hb.b c X Wx ys g h4)
  | _ => exact no2 h
theorem ok_for {t : Tg} {it : Ex} {b : St} (hb : OkS T E k b) : OkS T E k (.for_ t it b) := by
  refine .st (by intros; nofun) nofun fun c X Wx st g h => ?_
  cases st with
  | For tg x xs el p =>
    cases el with
    | cons _ _ => exact no2 h
    | nil =>
      obtain ⟨h1, h4⟩ := a2 (show (notSet x && mI it c tg x && mT c t tg && mB b c xs) = true from h)
      obtain ⟨h1, h3⟩ := a2 h1
      obtain ⟨h1, h2⟩ := a2 h1
      exact sS_for (q0 := E.q) g.own g.calm ((oks it).i c X Wx tg x g.toGd h2) (sG g.toGd.gs t tg h3) (hb.b c X Wx xs g h4) (nofold_of h1 X.env)
  | _ => exact no2 h
theorem ok_whl {e : Ex} {b : St} (hb : OkS T E k b) : OkS T E k (.whl e b) := by
  refine .st (by intros; nofun) nofun fun c X Wx st g h => ?_
  cases st with
  | While x xs el p =>
    cases el with
    | cons _ _ => exact no2 h
    | nil =>
      obtain ⟨h1, h4⟩ := a2 (show (tOk e && mE e c x && mB b c xs) = true from h)
      obtain ⟨h1, h2⟩ := a2 h1
      exact sS_whl (q0 := E.q) g.own ((oks e).t c X Wx x g.toGd h2 h1) (hb.b c X Wx xs g h4)
  | _ => exact no2 h
theorem ok_pass : OkS T E k .pass := by
  refine .st (by intros; nofun) nofun fun c X Wx st g h => ?_
  cases st with
  | Pass p => exact sS_pass
  | Expr x p =>
    cases x with
    | Constant v j q => cases v <;> first | exact sS_doc | exact no2 h
    | _ => exact no2 h
  | _ => exact no2 h
theorem ok_s {u : St} (hu : (∃ t e, u = .asg t e) ∨ u = .brk ∨ u = .cnt ∨ u = .retN ∨ u = .stuck ∨ (∃ a b, u = .rais a b) ∨ ∃ a b c d, u = .try_ a b c d) : OkS T E k u := by
  rcases hu with ⟨t, e, rfl⟩ | rfl | rfl | rfl | rfl | ⟨a, b, rfl⟩ | ⟨a, b, c, d, rfl⟩
  · cases t with
    | nm i => exact ok_asgN
    | tup ts => exact ok_asgT
    | nil => exact .st (by intros; nofun) nofun fun c X Wx st g h => by cases st <;> exact no2 h
    | cons _ _ => exact .st (by intros; nofun) nofun fun c X Wx st g h => by cases st <;> exact no2 h
  · exact .st (by intros; nofun) nofun fun c X Wx st g h => by cases st <;> first | exact sS_brk | exact no2 h
  · exact .st (by intros; nofun) nofun fun c X Wx st g h => by cases st <;> first | exact sS_cnt | exact no2 h
  · refine .st (by intros; nofun) nofun fun c X Wx st g h => ?_
    cases st with
    | Return x p => cases x <;> first | exact sS_retN | exact no2 h
    | _ => exact no2 h
  · exact .st (by intros; nofun) nofun fun c X Wx st g h => sS_stuck
  · exact .st (by intros; nofun) nofun fun c X Wx st g h => by cases st <;> exact no2 h
  · exact .st (by intros; nofun) nofun fun c X Wx st g h => by cases st <;> exact no2 h
theorem oksS : ∀ u : St, OkS T E k u
  | .nil => ⟨fun c X Wx st g h => by cases st <;> exact no2 h, fun c X Wx sts g h => by
    cases sts with
    | nil => exact sB_nil
    | cons _ _ => exact no2 h⟩
  | .cons s r => ⟨fun c X Wx st g h => by cases st <;> exact no2 h, fun c X Wx sts g h => by
    cases sts with
    | nil => exact no2 h
    | cons x xs =>
      obtain ⟨h1, h2⟩ := a2 (show (mS s c x && mB r c xs) = true from h)
      exact sB_cons ((oksS s).s c X Wx x g h1) ((oksS r).b c X Wx xs g h2)⟩
  | .stuck => ok_s (by simp)
  | .pass => ok_pass
  | .brk => ok_s (by simp)
  | .cnt => ok_s (by simp)
  | .expr _ => ok_expr
  | .ret _ => ok_ret
  | .retN => ok_s (by simp)
  | .asg _ _ => ok_s (by simp)
  | .par _ _ => ok_par
  | .stix _ _ _ => ok_stix
  | .stixm _ _ _ => ok_stixm
  | .auix _ _ _ _ => ok_auix
  | .ifs _ a b => ok_ifs (oksS a) (oksS b)
  | .for_ _ _ b => ok_for (oksS b)
  | .whl _ b => ok_whl (oksS b)
  | .rais _ _ => ok_s (by simp)
  | .try_ _ _ _ _ => ok_s (by simp)
end
end Pv
namespace Pv
open PySem PySem.Spec PyProof.Rows L2 RZ
structure Fs where
  name : Str
  params : Arguments
  body : List Stmt
  scope : Scope
  ps : List Str
  N : List Str
  fn : Fn
def fnScB (N P : List Str) (sc : Scope) : Bool := (match sc.kind with
  | .function => true
  | _ => false) && !sc.isCoroutine && !sc.isGenerator && decide N.Nodup && decide (N.take P.length = P) && P.all (fun x => locB sc x) && sc.names.all fun y => match y.2 with
  | .free => false
  | _ => true
theorem fnSc_of {N P : List Str} {sc : Scope} (h : fnScB N P sc = true) : FnScope N P sc := by
  obtain ⟨h, h7⟩ := a2 (show (_ && _) = true from h)
  obtain ⟨h, h6⟩ := a2 h
  obtain ⟨h, h5⟩ := a2 h
  obtain ⟨h, h4⟩ := a2 h
  obtain ⟨h, h3⟩ := a2 h
  obtain ⟨h, h2⟩ := a2 h
  refine ⟨?_, by simpa using h2, by simpa using h3, of_decide_eq_true h4, of_decide_eq_true h5, fun x hx => loc_of (List.all_eq_true.mp h6 x hx), fun y hy => ?_⟩
  · split at h
    · assumption
    · cases h
  · have q := List.all_eq_true.mp h7 y hy
    intro z
    rw [z] at q
    cases q
def Fs.chk (c : Cc) (f : Fs) : Bool := mB f.fn.body { c with N := f.N, sc := f.scope } f.body && decide (f.fn.ns = f.N.length) && decide (f.fn.np = f.ps.length) && fnScB f.N f.ps f.scope
structure Fk (K : PySem.W.Frag) (mg : Str → Option Value) (c : Cc) (f : Fs) (i : Nat) : Prop where
  ex : ∃ (a : Addr) (fd : FuncData), mg f.name = some (.ref a) ∧ FunD K f.name f.name f.params f.body f.scope [] [] a fd ∧ Binds K fd f.ps [] ∧
    ∀ n kn perm, (i, n, kn, perm) ∈ c.kw → ∀ (s : Shared) (us ws us' : List Value), us.length = n → ws.length = kn.length → pickG (us ++ ws) perm = some us' → us'.length = f.ps.length ∧ BindsTo s fd ⟨us, kn.zip ws⟩ (f.ps.zip us')
theorem Ext.back {H H' : Hp} {ms ms' : List Addr} (g : Ext H ms H' ms') : Ext H ms H' ms := ⟨g.toGrow, g.keep, g.trk, [], by simp, fun _ h => nomatch h⟩
theorem Ext.take {H H' : Hp} {ms ms' : List Addr} (g : Ext H ms H' ms') : ms'.take ms.length = ms := by
  obtain ⟨t, rfl, _⟩ := g.px
  exact List.take_left
theorem fin_ok {T : Tab} {K : PySem.W.Frag} {ms : List Addr} {H : Hp} {E : XK} {Q : VK} {w : W} (rw0 : RelW K ms H w) {r : RS} (h : endsR T K ms H (fun c d H' => E c d H') (relI T K) Q (fin w.length r)) :
    endsS T K ms H { nx := fun _ H' => Q .non H', rt := Q } (fun c d _ H' => E c d H') r := by
  have tk : ∀ {H' ms' w1}, Ext H ms H' ms' → RelW K ms' H' w1 → RelW K ms H' (w1.take w.length) := fun {H' ms' w1} g r => by
    have q := r.take w.length
    rw [← rw0.len, g.take, rw0.len] at q
    exact q
  cases r with
  | no => exact h
  | mk f w1 =>
    cases f with
    | next i => exact fun σ H' ms' g s => h .non H' ms g.back (show Fz _ _ _ _ from .non) (tk g s.w)
    | brk i => exact h.elim
    | cnt i => exact h.elim
    | exc c x i => exact fun σ d v H' ms' g e f s => h d v H' ms g.back e f (tk g s.w)
    | ret v =>
      intro u H' ms' g r1 w1'
      cases v with
      | d x => exact h u H' ms g.back r1 (tk g w1')
      | ref n =>
        have h' : endsR T K ms H (fun c d H' => E c d H') (relI T K) Q (if n < w.length then .ok (.ref n) (w1.take w.length) else .ok (.ref n) w1) := h
        split at h'
        · rename_i hn
          refine h' u H' ms g.back ?_ (tk g w1')
          obtain ⟨a, e, rfl⟩ := r1
          refine ⟨a, ?_, rfl⟩
          obtain ⟨t, rfl, _⟩ := g.px
          rw [List.getElem?_append_left (by rw [rw0.len]; exact hn)] at e
          exact e
        · exact h' u H' ms' g r1 w1'
      | exc c x => exact (show False from r1).elim
theorem slot_ge {σ : List (Option IV)} {n i : Nat} {v : IV} (h : slot (σ ++ List.replicate n none) i = some v) : ∃ o, σ[i]? = some o ∧ o = some v := by
  unfold slot at h
  by_cases hi : i < σ.length
  · rw [List.getElem?_append_left hi] at h
    cases q : σ[i]? with
    | none => rw [q] at h; cases h
    | some o => rw [q] at h; exact ⟨o, rfl, h⟩
  · rw [List.getElem?_append_right (by omega), List.getElem?_replicate] at h
    split at h <;> cases h
theorem paired_get {α β : Type} {R : α → β → Prop} : ∀ {as : List α} {bs : List β} {i : Nat} {a : α}, Paired R as bs → as[i]? = some a → ∃ b, bs[i]? = some b ∧ R a b
  | [], _, _, _, _, e => by simp at e
  | x :: as, _, 0, a, .cons r _, e => by
    cases (show some x = some a from e)
    exact ⟨_, rfl, r⟩
  | x :: as, _, i + 1, a, .cons _ r, e => paired_get (as := as) (i := i) r e
theorem sim_start {T : Tab} {K : PySem.W.Frag} {ms : List Addr} {H : Hp} {as : List IV} {vs : List V} {w : W} {N : List Str} {ns np : Nat} (ra : RelA T K ms H as vs) (rw' : RelW K ms H w) (h1 : ns = N.length) (h2 : as.length = np) :
    Sim T K ms H (as.map some ++ List.replicate (ns - np) none) (L2.start N vs) w := by
  have hl : as.length = vs.length := ra.len
  refine ⟨?_, fun i v e => ?_, rw'⟩
  · unfold L2.start
    rw [List.length_append, List.length_append, List.length_map, List.length_map, List.length_replicate, List.length_replicate]; omega
  · obtain ⟨o, e1, rfl⟩ := slot_ge e
    rw [List.getElem?_map] at e1
    cases q : as[i]? with
    | none => rw [q] at e1; cases e1
    | some a =>
      rw [q] at e1
      have ea : a = v := Option.some.inj (Option.some.inj e1)
      subst ea
      obtain ⟨b, hb, rb⟩ := paired_get ra q
      refine ⟨b, ?_, rb⟩
      have hi : i < vs.length := (List.getElem?_eq_some_iff.mp hb).1
      unfold L2.start
      rw [List.getElem?_append_left (by rw [List.length_map]; exact hi), List.getElem?_map, hb]
      rfl
section
variable {T : Tab} {c : Cc} {P : Program} {w : World} {K : PySem.W.Frag} {mg : Str → Option Value} {base : Heap} {fs : List Fs} {q : Nat} {G : Nat → Option D}
abbrev prog (fs : List Fs) : List Fn := fs.map Fs.fn
theorem callF_get {d i : Nat} {f : Fs} {as : List IV} {w : W} (h : fs[i]? = some f) : callF (prog fs) q G (d + 1) i as w = runF ⟨callF (prog fs) q G d, q, G⟩ f.fn as w := by
  have e : (prog fs)[i]? = some f.fn := by
    rw [List.getElem?_map, h]; rfl
  show (match (prog fs)[i]? with
    | none => R.no
    | some fn => runF ⟨callF (prog fs) q G d, q, G⟩ fn as w) = _
  rw [e]
theorem fn_step {d : Nat} (hcf : c.fs = fs.map fun f => (f.name, f.ps)) (hc : ∀ (i : Nat) (f : Fs), fs[i]? = some f → f.chk c = true)
    (gl : ∀ j x, c.gl[j]? = some x → ∃ u v d, mg x = some u ∧ RelV v u ∧ G j = some d ∧ ∀ H, Fz K H v d) (bl : ∀ f ∈ c.bs, BltG mg f) (hms : ∀ x ∈ c.ms, mg x = none) (hq : q ≤ 16777216)
    (ih : ∀ (i : Nat) (f : Fs), fs[i]? = some f → FnG T c ⟨callF (prog fs) q G d, q, G⟩ P w K mg base d i f.name f.ps) {i : Nat} {f : Fs} (hf : fs[i]? = some f) {a : Addr} {fd : FuncData} (F : FunD K f.name f.name f.params f.body f.scope [] [] a fd) :
    FnOk P w K mg base (L2.CX P w) (d + 1) a fd f.ps (spI T K f.ps.length (callF (prog fs) q G (d + 1) i)) := by
  obtain ⟨h1, h4⟩ := a2 (show (mB f.fn.body { c with N := f.N, sc := f.scope } f.body && decide (f.fn.ns = f.N.length) && decide (f.fn.np = f.ps.length) && fnScB f.N f.ps f.scope) = true from hc i f hf)
  obtain ⟨h1, h3⟩ := a2 h1
  obtain ⟨h1, h2⟩ := a2 h1
  have h2 := of_decide_eq_true h2
  have h3 := of_decide_eq_true h3
  have sc := fnSc_of h4
  refine F.ok sc (fun vs H Q E h => h.1) fun cdv A outer s H vs Q E hr h => ?_
  obtain ⟨hl, ms, w, as, ra, rw', he⟩ := h
  rw [callF_get hf] at he
  unfold runF at he
  have hal : as.length = f.fn.np := by rw [h3, ra.len, hl]
  rw [if_pos (by simpa using hal)] at he
  refine ⟨tS T K (fun cls d _ H' => E cls d H') (evS ⟨callF (prog fs) q G d, q, G⟩ f.fn.body), ?_, ms, _, w, sim_start ra rw' h2 hal, fin_ok rw' he⟩
  refine (oksS (T := T) (E := ⟨callF (prog fs) q G d, q, G⟩) (k := d) f.fn.body).b { c with N := f.N, sc := f.scope } _ _ f.body ?_ h1
  exact {
    gk := {
      fn := fun j x ps hj => by
        have hj' : c.fs[j]? = some (x, ps) := hj
        rw [hcf, List.getElem?_map] at hj'
        cases q : fs[j]? with
        | none => rw [q] at hj'; cases hj'
        | some g =>
          rw [q] at hj'
          cases hj'
          have z := ih j g q
          exact ⟨z.ar, z.ex⟩
      gl := gl
      bl := bl
      ms := hms
      q := hq }
    calm := rfl
    N := rfl
    nd := sc.nd
    sc := ScR.refl _
    kind := sc.kind
    fn := fun _ _ => rfl
    tk := takes_of rfl rfl rfl rfl
    room := hr
    scE := rfl
    own := passes_of rfl }
theorem tower (hcf : c.fs = fs.map fun f => (f.name, f.ps)) (hc : ∀ (i : Nat) (f : Fs), fs[i]? = some f → f.chk c = true) (hk : ∀ (i : Nat) (f : Fs), fs[i]? = some f → Fk K mg c f i)
    (gl : ∀ j x, c.gl[j]? = some x → ∃ u v d, mg x = some u ∧ RelV v u ∧ G j = some d ∧ ∀ H, Fz K H v d) (bl : ∀ f ∈ c.bs, BltG mg f) (hms : ∀ x ∈ c.ms, mg x = none) (hq : q ≤ 16777216) :
    ∀ (d i : Nat) (f : Fs), fs[i]? = some f → FnG T c ⟨callF (prog fs) q G d, q, G⟩ P w K mg base d i f.name f.ps := by
  intro d
  induction d with
  | zero =>
    intro i f hf
    obtain ⟨a, fd, e1, F, b, kw⟩ := (hk i f hf).ex
    exact ⟨fun us w _ => rfl, a, fd, e1, F.kp, b, ⟨fun vs H Q E h => h.1, fun A outer s H args us vs Q E _ _ _ _ h => by
      obtain ⟨_, ms, w, as, _, _, e⟩ := h
      exact e.elim⟩, kw⟩
  | succ d ih =>
    intro i f hf
    obtain ⟨a, fd, e1, F, b, kw⟩ := (hk i f hf).ex
    refine ⟨fun us w hl => ?_, a, fd, e1, F.kp, b, fn_step hcf hc gl bl hms hq ih hf F, kw⟩
    obtain ⟨h1, h4⟩ := a2 (show (mB f.fn.body { c with N := f.N, sc := f.scope } f.body && decide (f.fn.ns = f.N.length) && decide (f.fn.np = f.ps.length) && fnScB f.N f.ps f.scope) = true from hc i f hf)
    obtain ⟨h1, h3⟩ := a2 h1
    have h3 := of_decide_eq_true h3
    show callF (prog fs) q G (d + 1) i us w = .no
    rw [callF_get hf]
    unfold runF
    rw [if_neg (by rw [h3]; simpa using hl)]
end
end Pv
namespace Pv
open PySem PySem.Spec PyProof.Rows L2 RZ
def noL (o : Obj) : Bool := match o.cls with
  | .type c => !decide (c = "list")
  | _ => true
def frV (g : Addr → Option Obj) (as : List Addr) : PySem.W.Frag := (He.frG g as).filter fun q => noL q.2
theorem frV_mem {g : Addr → Option Obj} {as : List Addr} {a : Addr} {o : Obj} (h : (frV g as).lookup a = some o) : g a = some o ∧ noL o = true := by
  obtain ⟨h1, h2⟩ := List.mem_filter.mp (He.lookup_mem h)
  exact ⟨He.frG_mem h1, h2⟩
theorem frV_in {as : List Addr} {h : Heap} : (frV h.get? as).In h := fun _ _ e => (frV_mem e).1
def fzB (K : PySem.W.Frag) : Nat → Value → PyData → Bool
  | 0, _, _ => false
  | _ + 1, .none, .none => true
  | _ + 1, .bool a, .bool b => a == b
  | _ + 1, .int a _, .int b => decide (a = b)
  | _ + 1, .str a _, .str b => decide (a = b)
  | n + 1, .ref a, .tuple ds => (match K.lookup a with
    | some ⟨.type c, _, .seq its _, _⟩ => decide (c = "tuple") && (decide (its.size ≤ sizeLine) && (decide (its.toList.length = ds.length) && (its.toList.zip ds).all fun p => fzB K n p.1 p.2))
    | _ => false)
  | _ + 1, _, _ => false
theorem fzB_all {K : PySem.W.Frag} {n : Nat} (ih : ∀ v d, fzB K n v d = true → ∃ x, RelV x v ∧ ∀ H, Fz K H x d) : ∀ {vs : List Value} {ds : List PyData}, vs.length = ds.length → (vs.zip ds).all (fun p => fzB K n p.1 p.2) = true → ∃ xs, Vals xs vs ∧ ∀ H, FzAll K H xs ds
  | [], [], _, _ => ⟨[], .nil, fun _ => .nil⟩
  | v :: vs, d :: ds, hl, h => by
    rw [List.zip_cons_cons, List.all_cons] at h
    obtain ⟨h1, h2⟩ := a2 h
    obtain ⟨x, r1, f1⟩ := ih v d h1
    obtain ⟨xs, r2, f2⟩ := fzB_all ih (by simpa using hl) h2
    exact ⟨x :: xs, .cons r1 r2, fun H => .cons (f1 H) (f2 H)⟩
  | [], _ :: _, hl, _ => by cases hl
  | _ :: _, [], hl, _ => by cases hl
theorem fzB_ok {K : PySem.W.Frag} : ∀ {n : Nat} {v : Value} {d : PyData}, fzB K n v d = true → ∃ x, RelV x v ∧ ∀ H, Fz K H x d := by
  intro n
  induction n with
  | zero => intro v d h; cases h
  | succ n ih =>
    intro v d h
    unfold fzB at h
    split at h
    · rename_i e; cases e
    · exact ⟨.non, rfl, fun _ => .non⟩
    · have e := eq_of_beq h
      subst e
      exact ⟨.bl _, rfl, fun _ => .bl _⟩
    · have e := of_decide_eq_true h
      subst e
      exact ⟨.int _, ⟨_, rfl⟩, fun _ => .int _⟩
    · have e := of_decide_eq_true h
      subst e
      exact ⟨.str _, ⟨_, rfl⟩, fun _ => .str _⟩
    · rename_i n' a ds e
      cases e
      split at h
      · rename_i c od its m sl hk
        obtain ⟨h1, h2⟩ := a2 h
        obtain ⟨h2, h3⟩ := a2 h2
        obtain ⟨h3, h4⟩ := a2 h3
        obtain ⟨xs, r, f⟩ := fzB_all (fun v d h => ih h) (of_decide_eq_true h3) h4
        exact ⟨.ref a, rfl, fun H => .tup (.inr ⟨_, its, m, hk, congrArg Value.type (of_decide_eq_true h1), rfl, of_decide_eq_true h2, r⟩) (f H)⟩
      · cases h
    · cases h
structure Lw where
  c : Cc
  fs : List Fs
  gd : List (Str × PyData)
  bi : List (Str × String)
def Lw.G (L : Lw) (j : Nat) : Option PyData := (L.gd[j]?).map (·.2)
def Fs.defD (f : Fs) : He.DefD := ⟨(f.name, none), f.name, f.name, f.params, f.body, f.scope, [], []⟩
def Lw.fr (L : Lw) : List Str := L.c.ms ++ ((L.c.bs.filter fun f => decide (f ≠ .gcd ∧ f ≠ .lcm ∧ f ≠ .isqrt)).map B.nm)
def Lw.fa (L : Lw) : List He.Fa := L.fs.map (fun f => .glo f.name) ++ L.fr.map .free
def Lw.fn (L : Lw) : List He.DefD := L.fs.map Fs.defD
def Lw.ex (L : Lw) (K : PySem.W.Frag) : Bool := (L.bi.all fun p => He.eqO (PySem.W.nsIn K mainGlobals p.1) (some (some (.builtin p.2)))) && L.gd.all fun p => match PySem.W.nsIn K mainGlobals p.1 with
  | some (some v) => fzB K 12 v p.2
  | _ => false
abbrev AlV : Type := He.AlD × Bool
def Lw.obs (L : Lw) (n : Nat) (g : Addr → Option Obj) : AlV := (He.obsD L.fa L.fn (frV g (He.asD g n)), L.ex (frV g (He.asD g n)))
def Lw.hook (L : Lw) (n : Nat) : PySem.W.Hook where
  α := AlV
  obs := fun s => L.obs n s.heap.get?
  val := fun _ => (He.valD L.fn, true)
  says := fun _ h => ∃ K : PySem.W.Frag, K.In h ∧ He.SaysD L.fa L.fn K ∧ L.ex K = true ∧ ∀ a o, K.lookup a = some o → noL o = true
  of := fun _ _ e => ⟨_, frV_in, congrArg (fun z : AlV => z.1) e, congrArg (fun z : AlV => z.2) e, fun _ _ h => (frV_mem h).2⟩
  keeps := fun _ _ _ ⟨K, hK, c⟩ k => ⟨K, PySem.W.Frag.In.keeps hK k, c⟩
def Lw.ob (L : Lw) (n : Nat) (s : PySem.W.SharedT) : AlV := L.obs n (HandSHeadRun.getT s)
theorem Lw.ob_eq (L : Lw) (n : Nat) (s : PySem.W.SharedT) : L.ob n s = (L.hook n).obs s.abs := by
  have e : HandSHeadRun.getT s = s.abs.heap.get? := funext (HandSHeadRun.getT_eq s)
  show L.obs n (HandSHeadRun.getT s) = L.obs n s.abs.heap.get?
  rw [e]
structure Lw.Fine (L : Lw) (li : Nat) : Prop where
  cf : L.c.fs = L.fs.map fun f => (f.name, f.ps)
  ck : ∀ (i : Nat) (f : Fs), L.fs[i]? = some f → f.chk L.c = true
  gl : L.c.gl = L.gd.map (·.1)
  gcd : Pv.B.gcd ∈ L.c.bs → (("gcd" : Str), "math.gcd") ∈ L.bi
  lcm : Pv.B.lcm ∈ L.c.bs → (("lcm" : Str), "math.lcm") ∈ L.bi
  isq : Pv.B.isqrt ∈ L.c.bs → (("isqrt" : Str), "math.isqrt") ∈ L.bi
  law : ∃ f, L.fs[li]? = some f ∧ f.name = "law" ∧ f.ps = [("script" : Str)]
  bn : ∀ (i : Nat) (f : Fs), L.fs[i]? = some f → ∀ (kV doc pm : Value) (an : Option Addr) (cdv ct : Value) (us : List Value), us.length = f.ps.length → bindArgs (PySem.W.fnOf f.name f.name f.params f.body f.scope .none kV doc pm an cdv ct) ⟨us, []⟩ = pure (f.ps.zip us)
  kw : ∀ i n kn perm, (i, n, kn, perm) ∈ L.c.kw → ∀ f, L.fs[i]? = some f → ∀ (kV doc pm : Value) (an : Option Addr) (cdv ct : Value) (us ws us' : List Value), us.length = n → ws.length = kn.length → pickG (us ++ ws) perm = some us' →
    us'.length = f.ps.length ∧ bindArgs (PySem.W.fnOf f.name f.name f.params f.body f.scope .none kV doc pm an cdv ct) ⟨us, kn.zip ws⟩ = pure (f.ps.zip us')
def T0 : Tab := ⟨fun _ => 0⟩
def qq : Nat := 16777216
theorem SqL.noK {K : PySem.W.Frag} {H : Hp} {a : Addr} {xs : List V} (hK : ∀ a o, K.lookup a = some o → noL o = true) (hO : L2.Only H) (h : SqL K H a xs) : FzL K H a xs := by
  rcases h with h | ⟨o, its, n, hk, hc, _⟩
  · rcases h with h | h
    · rcases hO a with z | ⟨o, ys, z⟩
      · rw [h] at z; cases z
      · rw [h] at z; cases z
    · exact h
  · have q := hK a o hk
    unfold noL at q
    rw [hc] at q
    simp at q
theorem ints_fzAll {K : PySem.W.Frag} {H : Hp} : ∀ ns : List Int, FzAll K H (ns.map V.int) (ns.map PyData.int)
  | [] => .nil
  | n :: r => .cons (.int n) (ints_fzAll r)
theorem law_V {l : PySem.W.OpenLaw} {L : Lw} {li k n : Nat} {q : Program} {loose : List Str} {XP : (Str → Option Value) → Heap → Prop} {d : DefRec} (hn : l.most = some 63) (hdf : d.params.defaults = []) (hd : d.name = "law") (hr : Room (k + 1) callerA) (hF : L.Fine li)
    (pure_ : ∀ ns : List Int, ns.length ≤ 63 → (∀ z ∈ ns, Builtin.Int.intBits z ≤ 1048576) → ∃ w', callF (prog L.fs) qq L.G (k + 1) li [.d (.list (ns.map .int))] [] = .ok (.d (.bool true)) w') :
    PySem.W.WalkO q loose XP (L.hook n).says l.row.toRowW d [] (fun f vs => PySem.call f vs) := by
  refine Att.attach_callB hn hdf fun w s₀ s₁ mg mb fa o pm cd doc a vs ns GG Y ho hd' hcd hmg hobj hints hlen hbits hg => ?_
  obtain ⟨K, KX, cs, ce, cl⟩ := Y
  have hns := GG.T.g
  have hk : ∀ (i : Nat) (f : Fs), L.fs[i]? = some f → Fk K mg L.c f i := fun i f hf => by
    have mf : f ∈ L.fs := List.mem_of_getElem? hf
    obtain ⟨fd, F⟩ := cs.defs (d := f.defD) (List.mem_map.mpr ⟨f, mf, rfl⟩)
    have F : FunD K f.name f.name f.params f.body f.scope [] [] (He.ga K f.name) fd := F
    have g := He.glo_ok KX hns (cs.facts (f := .glo f.name) (List.mem_append.mpr (.inl (List.mem_map.mpr ⟨f, mf, rfl⟩))))
    refine ⟨_, fd, g, F, F.bindsN (hF.bn i f hf), fun n kn perm hm s us ws us' h1 h2 h3 => ?_⟩
    obtain ⟨oc, od, dV, kV, doc, pm, an, cdv, ct, osl, rfl, lk, hcd, hD, hK⟩ := F.ex
    rcases hD with ⟨_, rfl⟩ | ⟨e, _⟩
    · obtain ⟨q1, q2⟩ := hF.kw i n kn perm hm f hf kV doc pm an cdv ct us ws us' h1 h2 h3
      exact ⟨q1, .of_eq q2⟩
    · exact absurd rfl e
  obtain ⟨ce1, ce2⟩ := a2 (show (_ && _) = true from ce)
  have free : ∀ x ∈ L.fr, mg x = none := fun x hx => He.free_ok KX hns (cs.facts (f := .free x) (List.mem_append.mpr (.inr (List.mem_map.mpr ⟨x, hx, rfl⟩))))
  have biok : ∀ x id, (x, id) ∈ L.bi → mg x = some (.builtin id) := fun x id hx => by
    have := He.eqO_ok (List.all_eq_true.mp ce1 _ hx)
    exact PySem.W.mg_of KX hns this
  have bl : ∀ f ∈ L.c.bs, BltG mg f := fun f hf => by
    have fr : (f ≠ .gcd ∧ f ≠ .lcm ∧ f ≠ .isqrt) → mg f.nm = none := fun h => free _ (List.mem_append.mpr (.inr (List.mem_map.mpr ⟨f, List.mem_filter.mpr ⟨hf, decide_eq_true h⟩, rfl⟩)))
    cases f with
    | gcd => exact biok _ _ (hF.gcd hf)
    | lcm => exact biok _ _ (hF.lcm hf)
    | isqrt => exact biok _ _ (hF.isq hf)
    | _ => exact fr (by decide)
  have gl : ∀ j x, L.c.gl[j]? = some x → ∃ u v d, mg x = some u ∧ RelV v u ∧ L.G j = some d ∧ ∀ H, Fz K H v d := fun j x hj => by
    rw [hF.gl, List.getElem?_map] at hj
    cases q : L.gd[j]? with
    | none => rw [q] at hj; cases hj
    | some p =>
      rw [q] at hj
      have ex : p.1 = x := Option.some.inj hj
      have h1 := List.all_eq_true.mp ce2 p (List.mem_of_getElem? q)
      split at h1
      · rename_i v hv
        obtain ⟨y, r, f⟩ := fzB_ok h1
        refine ⟨v, y, p.2, ?_, r, ?_, f⟩
        · rw [← ex]
          exact PySem.W.mg_of KX hns hv
        · unfold Lw.G
          rw [q]; rfl
      · cases h1
  obtain ⟨f, hf, e1, e2⟩ := hF.law
  obtain ⟨a0, fd, g0, F0, _, _⟩ := (hk li f hf).ex
  have ea : a0 = fa := by
    have : mg "law" = some (.ref fa) := by rw [← hd]; exact hmg
    rw [e1, this] at g0
    cases g0
    rfl
  subst ea
  have hm : ∀ x ∈ L.c.ms, mg x = none := fun x hx => free x (List.mem_append.mpr (.inl hx))
  have go := fun base => fn_step (T := T0) (c := L.c) (P := l.prog) (w := w) (K := K) (mg := mg) (base := base) (q := qq) (G := L.G) hF.cf hF.ck gl bl hm (Nat.le_refl _) (tower (T := T0) (c := L.c) (P := l.prog) (w := w) (K := K) (mg := mg) (base := base) (q := qq) (G := L.G) hF.cf hF.ck hk gl bl hm (Nat.le_refl _) k) hf F0
  rw [e2] at go
  refine law_call (CX := L2.CX l.prog w) (sp := spI T0 K 1 (callF (prog L.fs) qq L.G (k + 1) li)) (fd := fd) (x := "script") (k := k + 1) KX hns GG.T.b GG.T.builtins GG.T.nolimit hg hobj hints (Nat.le_trans hlen (by decide)) hr (fun base _ _ => go base) (fun s u => ?_) (fun H hO hS => ?_) fun H e s' h => ?_
  · have := F0.bindsA (hF.bn li f hf) s [u] (by rw [e2]; rfl)
    rw [e2] at this
    exact this
  · have hz := SqL.noK cl hO hS
    obtain ⟨w', hw⟩ := pure_ ns hlen hbits
    refine ⟨rfl, [], [], [.d (.list (ns.map .int))], .cons (show Fz _ _ _ _ from .lst hz (ints_fzAll ns)) .nil, ⟨rfl, List.nodup_nil, fun n c a h => by simp at h⟩, ?_⟩
    rw [hw]
    intro v H' ms' _ r _
    cases (show Fz _ _ _ _ from r)
    rfl
  · obtain ⟨_, _, _, _, _, _, _, _, _, _, _, _, h⟩ := h
    exact h
end Pv
namespace Pv
open PySem PySem.Spec PyProof.Rows L2
def B_is_integer : St := (.cons (.ret (.and (.isi (.var 0) [.int]) (.not (.isi (.var 0) [.bool])))) .nil)
def B_lowest : St := (.cons (.asg (.nm 2) (.blt .gcd (.cons (.var 0) (.cons (.var 1) .nil)))) (.cons (.ifs (.cmp .Lt (.var 1) (.cst (.int (0)))) (.cons (.asg (.nm 2) (.neg (.var 2))) .nil) .nil) (.cons (.ret (.tup (.cons (.bin .FloorDiv (.var 0) (.var 2)) (.cons (.bin .FloorDiv (.var 1) (.var 2)) .nil)))) .nil)))
def B_is_number (i_is_integer : Nat) : St := (.cons (.ifs (.or (.not (.isi (.var 0) [.tuple])) (.or (.cmp .NotEq (.blt .len (.cons (.var 0) .nil)) (.cst (.int (2)))) (.not (.blt .all (.cons (.comp [1] (.call i_is_integer (.cons (.var 1) .nil)) (.nm 1) (.seq (.var 0)) .nil) .nil))))) (.cons (.ret (.cst (.bool false))) .nil) .nil) (.cons (.ret (.and (.cmp .Gt (.sub (.var 0) (.cst (.int (1)))) (.cst (.int (0)))) (.cmp .Eq (.blt .gcd (.cons (.sub (.var 0) (.cst (.int (0)))) (.cons (.sub (.var 0) (.cst (.int (1)))) .nil))) (.cst (.int (1)))))) .nil))
def B_check_number (i_is_number : Nat) : St := (.cons (.ifs (.not (.call i_is_number (.cons (.var 0) .nil))) (.cons .stuck .nil) .nil) .nil)
def B_check_integer (i_is_integer : Nat) : St := (.cons (.ifs (.or (.not (.call i_is_integer (.cons (.var 0) .nil))) (.and (.cmp .IsNot (.var 1) (.cst (.none))) (.cmp .Lt (.var 0) (.var 1)))) (.cons .stuck .nil) .nil) .nil)
def B_is_polynomial (i_is_integer : Nat) : St := (.cons (.ifs (.or (.not (.isi (.var 0) [.tuple])) (.not (.blt .all (.cons (.comp [1] (.call i_is_integer (.cons (.var 1) .nil)) (.nm 1) (.seq (.var 0)) .nil) .nil)))) (.cons (.ret (.cst (.bool false))) .nil) .nil) (.cons (.ret (.or (.cmp .Eq (.var 0) (.tup .nil)) (.cmp .NotEq (.sub (.var 0) (.cst (.int (0)))) (.cst (.int (0)))))) .nil))
def B_check_polynomial (i_is_polynomial : Nat) : St := (.cons (.ifs (.not (.call i_is_polynomial (.cons (.var 0) .nil))) (.cons .stuck .nil) .nil) .nil)
def B_stripped : St := (.cons (.asg (.nm 2) (.cst (.int (0)))) (.cons (.whl (.and (.cmp .Lt (.var 2) (.blt .len (.cons (.var 0) .nil))) (.cmp .Eq (.sub (.var 0) (.var 2)) (.var 1))) (.cons (.asg (.nm 2) (.bin .Add (.var 2) (.cst (.int (1))))) .nil)) (.cons (.ret (.blt .tuple (.cons (.sl (.var 0) (.cons (.var 2) .nil) .nil) .nil))) .nil)))
def B_value_of (i_lowest : Nat) : St := (.cons (.asg (.tup (.cons (.nm 2) (.cons (.nm 3) .nil))) (.tup (.cons (.cst (.int (0))) (.cons (.cst (.int (1))) .nil)))) (.cons (.for_ (.tup (.cons (.nm 4) (.cons (.nm 5) .nil))) (.enm (.var 0)) (.cons (.asg (.nm 3) (.ite (.cmp .Gt (.var 4) (.cst (.int (0)))) (.bin .Mult (.var 3) (.sub (.var 1) (.cst (.int (1))))) (.cst (.int (1))))) (.cons (.asg (.nm 2) (.bin .Add (.bin .Mult (.var 2) (.sub (.var 1) (.cst (.int (0))))) (.bin .Mult (.var 5) (.var 3)))) .nil))) (.cons (.ret (.call i_lowest (.cons (.var 2) (.cons (.var 3) .nil)))) .nil)))
def B_value (i_check_polynomial i_check_number i_value_of : Nat) : St := (.cons (.expr (.call i_check_polynomial (.cons (.var 0) .nil))) (.cons (.expr (.call i_check_number (.cons (.var 1) .nil))) (.cons (.ret (.call i_value_of (.cons (.var 0) (.cons (.var 1) .nil)))) .nil)))
def B_padded : St := (.cons (.ret (.bin .Add (.bin .Mult (.tup (.cons (.var 2) .nil)) (.bin .Sub (.var 1) (.blt .len (.cons (.var 0) .nil)))) (.blt .tuple (.cons (.var 0) .nil)))) .nil)
def B_sum_of (i_stripped i_padded : Nat) : St := (.cons (.asg (.nm 2) (.blt .max (.cons (.blt .len (.cons (.var 0) .nil)) (.cons (.blt .len (.cons (.var 1) .nil)) .nil)))) (.cons (.ret (.call i_stripped (.cons (.comp [3, 4] (.bin .Add (.var 3) (.var 4)) (.tup (.cons (.nm 3) (.cons (.nm 4) .nil))) (.zp (.call i_padded (.cons (.var 0) (.cons (.var 2) (.cons (.cst (.int (0))) .nil)))) (.call i_padded (.cons (.var 1) (.cons (.var 2) (.cons (.cst (.int (0))) .nil))))) .nil) (.cons (.cst (.int (0))) .nil)))) .nil))
def B_times_of_two : St := (.cons (.asg (.nm 2) (.new (.bin .Mult (.lst (.cons (.cst (.int (0))) .nil)) (.blt .max (.cons (.cst (.int (0))) (.cons (.bin .Sub (.bin .Add (.blt .len (.cons (.var 0) .nil)) (.blt .len (.cons (.var 1) .nil))) (.cst (.int (1)))) .nil)))))) (.cons (.for_ (.tup (.cons (.nm 3) (.cons (.nm 4) .nil))) (.enm (.var 0)) (.cons (.for_ (.tup (.cons (.nm 5) (.cons (.nm 6) .nil))) (.enm (.var 1)) (.cons (.stix (.var 2) (.bin .Add (.var 3) (.var 5)) (.bin .Add (.sub (.var 2) (.bin .Add (.var 3) (.var 5))) (.bin .Mult (.var 4) (.var 6)))) .nil)) .nil)) (.cons (.ret (.ite (.and (.cmp .NotEq (.var 0) (.tup .nil)) (.cmp .NotEq (.var 1) (.tup .nil))) (.blt .tuple (.cons (.var 2) .nil)) (.tup .nil))) .nil)))
def B_scaled_by : St := (.cons (.ret (.ite (.cmp .NotEq (.var 1) (.cst (.int (0)))) (.blt .tuple (.cons (.comp [2] (.bin .Mult (.var 1) (.var 2)) (.nm 2) (.seq (.var 0)) .nil) .nil)) (.tup .nil))) .nil)
def B_plus (i_check_polynomial i_sum_of : Nat) : St := (.cons (.expr (.call i_check_polynomial (.cons (.var 0) .nil))) (.cons (.expr (.call i_check_polynomial (.cons (.var 1) .nil))) (.cons (.ret (.call i_sum_of (.cons (.var 0) (.cons (.var 1) .nil)))) .nil)))
def B_times (i_check_polynomial i_times_of_two : Nat) : St := (.cons (.expr (.call i_check_polynomial (.cons (.var 0) .nil))) (.cons (.expr (.call i_check_polynomial (.cons (.var 1) .nil))) (.cons (.ret (.call i_times_of_two (.cons (.var 0) (.cons (.var 1) .nil)))) .nil)))
def B_scaled (i_check_polynomial i_check_integer i_scaled_by : Nat) : St := (.cons (.expr (.call i_check_polynomial (.cons (.var 0) .nil))) (.cons (.expr (.call i_check_integer (.cons (.var 1) (.cons (.cst (.none)) .nil)))) (.cons (.ret (.call i_scaled_by (.cons (.var 0) (.cons (.var 1) .nil)))) .nil)))
def B_power (i_check_polynomial i_check_integer i_times_of_two : Nat) : St := (.cons (.expr (.call i_check_polynomial (.cons (.var 0) .nil))) (.cons (.expr (.call i_check_integer (.cons (.var 1) (.cons (.cst (.int (0))) .nil)))) (.cons (.ifs (.cmp .Gt (.var 1) (.cst (.int (6)))) (.cons .stuck .nil) .nil) (.cons (.asg (.nm 2) (.tup (.cons (.cst (.int (1))) .nil))) (.cons (.for_ (.nm 3) (.rng (.cons (.var 1) .nil)) (.cons (.asg (.nm 2) (.call i_times_of_two (.cons (.var 2) (.cons (.var 0) .nil)))) .nil)) (.cons (.ret (.var 2)) .nil))))))
def B_law_take : St := (.cons (.ifs (.and (.cmp .Eq (.sub (.var 0) (.cst (.int (0)))) (.cst (.int (0)))) (.cmp .Lt (.sub (.var 0) (.cst (.int (2)))) (.blt .len (.cons (.var 0) .nil)))) (.cons (.asg (.nm 2) (.sub (.var 0) (.sub (.var 0) (.cst (.int (2)))))) (.cons (.auix .Add (.var 0) (.cst (.int (2))) (.cst (.int (1)))) (.cons (.ifs (.cmp .GtE (.var 2) (.bin .Pow (.cst (.int (10))) (.cst (.int (18))))) (.cons (.stix (.var 0) (.cst (.int (0))) (.bin .Sub (.var 2) (.bin .Pow (.cst (.int (10))) (.cst (.int (18)))))) .nil) (.cons (.asg (.nm 4) (.bin .Mod (.blt .int (.cons (.var 2) .nil)) (.cst (.int (2147483647))))) (.cons (.asg (.nm 4) (.bin .Mod (.blt .int (.cons (.bin .Add (.bin .Add (.bin .Mult (.var 4) (.var 4)) (.bin .Mult (.cst (.int (69621))) (.var 4))) (.bin .Mult (.cst (.int (977))) (.sub (.var 0) (.cst (.int (2)))))) .nil)) (.cst (.int (2147483629))))) (.cons (.stix (.var 0) (.cst (.int (1))) (.bin .Mod (.blt .int (.cons (.bin .Add (.sub (.var 0) (.cst (.int (1)))) (.var 4)) .nil)) (.cst (.int (2147483629))))) .nil)))) .nil))) .nil) (.cons (.ifs (.cmp .Gt (.sub (.var 0) (.cst (.int (0)))) (.cst (.int (0)))) (.cons (.asg (.nm 3) (.bin .Mod (.blt .int (.cons (.sub (.var 0) (.cst (.int (0)))) .nil)) (.var 1))) (.cons (.stix (.var 0) (.cst (.int (0))) (.bin .FloorDiv (.sub (.var 0) (.cst (.int (0)))) (.var 1))) (.cons (.ret (.var 3)) .nil))) .nil) (.cons (.stix (.var 0) (.cst (.int (1))) (.bin .Mod (.blt .int (.cons (.bin .Add (.bin .Add (.bin .Mult (.sub (.var 0) (.cst (.int (1)))) (.cst (.int (48271)))) (.bin .Mult (.cst (.int (40692))) (.sub (.var 0) (.cst (.int (2)))))) (.cst (.int (11)))) .nil)) (.cst (.int (2147483647))))) (.cons (.stix (.var 0) (.cst (.int (1))) (.bin .Mod (.blt .int (.cons (.bin .Add (.bin .Mult (.sub (.var 0) (.cst (.int (1)))) (.sub (.var 0) (.cst (.int (1))))) (.cst (.int (7)))) .nil)) (.cst (.int (2147483629))))) (.cons (.ret (.bin .Mod (.blt .int (.cons (.bin .FloorDiv (.sub (.var 0) (.cst (.int (1)))) (.cst (.int (8)))) .nil)) (.var 1))) .nil)))))
def B_law_same (i__law_same : Nat) : St := (.cons (.ifs (.cmp .Is (.var 1) (.cst (.none))) (.cons (.ret (.cmp .Is (.var 0) (.cst (.none)))) .nil) .nil) (.cons (.ifs (.isi (.var 1) [.bool, .str]) (.cons (.ret (.and (.cmp .Eq (.isi (.var 0) [.bool]) (.isi (.var 1) [.bool])) (.and (.isi (.var 0) [.bool, .str]) (.cmp .Eq (.var 0) (.var 1))))) .nil) .nil) (.cons (.ifs (.isi (.var 1) [.int]) (.cons (.ret (.and (.isi (.var 0) [.int]) (.and (.not (.isi (.var 0) [.bool])) (.cmp .Eq (.var 0) (.var 1))))) .nil) .nil) (.cons (.ifs (.or (.cmp .NotEq (.isi (.var 1) [.list]) (.isi (.var 0) [.list])) (.cmp .NotEq (.isi (.var 1) [.tuple]) (.isi (.var 0) [.tuple]))) (.cons (.ret (.cst (.bool false))) .nil) .nil) (.cons (.ret (.and (.cmp .Eq (.blt .len (.cons (.var 0) .nil)) (.blt .len (.cons (.var 1) .nil))) (.blt .all (.cons (.comp [2] (.call i__law_same (.cons (.sub (.var 0) (.var 2)) (.cons (.sub (.var 1) (.var 2)) .nil))) (.nm 2) (.rng (.cons (.blt .len (.cons (.var 1) .nil)) .nil)) .nil) .nil)))) .nil)))))
def B_law_low : St := (.cons (.par [4, 5] (.cons (.blt .abs (.cons (.var 0) .nil)) (.cons (.blt .abs (.cons (.var 1) .nil)) .nil))) (.cons (.for_ (.nm 2) (.rng (.cons (.cst (.int (100000))) .nil)) (.cons (.ifs (.cmp .Eq (.var 5) (.cst (.int (0)))) (.cons .brk .nil) .nil) (.cons (.par [4, 5] (.cons (.var 5) (.cons (.bin .Mod (.blt .int (.cons (.var 4) .nil)) (.var 5)) .nil))) .nil))) (.cons (.asg (.nm 3) (.ite (.cmp .Gt (.var 1) (.cst (.int (0)))) (.cst (.int (1))) (.neg (.cst (.int (1)))))) (.cons (.ret (.tup (.cons (.bin .FloorDiv (.bin .Mult (.var 3) (.var 0)) (.var 4)) (.cons (.bin .FloorDiv (.bin .Mult (.var 3) (.var 1)) (.var 4)) .nil)))) .nil))))
def B_law_plus (i__law_low : Nat) : St := (.cons (.ret (.call i__law_low (.cons (.bin .Add (.bin .Mult (.sub (.var 0) (.cst (.int (0)))) (.sub (.var 1) (.cst (.int (1))))) (.bin .Mult (.sub (.var 1) (.cst (.int (0)))) (.sub (.var 0) (.cst (.int (1)))))) (.cons (.bin .Mult (.sub (.var 0) (.cst (.int (1)))) (.sub (.var 1) (.cst (.int (1))))) .nil)))) .nil)
def B_law_times (i__law_low : Nat) : St := (.cons (.ret (.call i__law_low (.cons (.bin .Mult (.sub (.var 0) (.cst (.int (0)))) (.sub (.var 1) (.cst (.int (0))))) (.cons (.bin .Mult (.sub (.var 0) (.cst (.int (1)))) (.sub (.var 1) (.cst (.int (1))))) .nil)))) .nil)
def B_law_dot (i__law_plus i__law_times : Nat) : St := (.cons (.asg (.nm 2) (.tup (.cons (.cst (.int (0))) (.cons (.cst (.int (1))) .nil)))) (.cons (.for_ (.tup (.cons (.nm 3) (.cons (.nm 4) .nil))) (.zp (.var 0) (.var 1)) (.cons (.ifs (.and (.cmp .NotEq (.sub (.var 3) (.cst (.int (0)))) (.cst (.int (0)))) (.cmp .NotEq (.sub (.var 4) (.cst (.int (0)))) (.cst (.int (0))))) (.cons (.asg (.nm 2) (.call i__law_plus (.cons (.var 2) (.cons (.call i__law_times (.cons (.var 3) (.cons (.var 4) .nil))) .nil)))) .nil) .nil) .nil)) (.cons (.ret (.var 2)) .nil)))
def B_law_trim : St := (.cons (.asg (.nm 1) (.cst (.int (0)))) (.cons (.whl (.and (.cmp .Lt (.var 1) (.blt .len (.cons (.var 0) .nil))) (.cmp .In (.sub (.var 0) (.var 1)) (.tup (.cons (.cst (.int (0))) (.cons (.tup (.cons (.cst (.int (0))) (.cons (.cst (.int (1))) .nil))) .nil))))) (.cons (.asg (.nm 1) (.bin .Add (.var 1) (.cst (.int (1))))) .nil)) (.cons (.ret (.blt .tuple (.cons (.sl (.var 0) (.cons (.var 1) .nil) .nil) .nil))) .nil)))
def B_law_sum (i__law_trim : Nat) : St := (.cons (.asg (.nm 2) (.blt .max (.cons (.blt .len (.cons (.var 0) .nil)) (.cons (.blt .len (.cons (.var 1) .nil)) .nil)))) (.cons (.par [3, 4] (.cons (.bin .Add (.bin .Mult (.lst (.cons (.cst (.int (0))) .nil)) (.bin .Sub (.var 2) (.blt .len (.cons (.var 0) .nil)))) (.blt .list (.cons (.var 0) .nil))) (.cons (.bin .Add (.bin .Mult (.lst (.cons (.cst (.int (0))) .nil)) (.bin .Sub (.var 2) (.blt .len (.cons (.var 1) .nil)))) (.blt .list (.cons (.var 1) .nil))) .nil))) (.cons (.ret (.call i__law_trim (.cons (.comp [5, 6] (.bin .Add (.var 5) (.var 6)) (.tup (.cons (.nm 5) (.cons (.nm 6) .nil))) (.zp (.var 3) (.var 4)) .nil) .nil))) .nil)))
def B_law_product : St := (.cons (.ifs (.or (.cmp .Eq (.var 0) (.tup .nil)) (.cmp .Eq (.var 1) (.tup .nil))) (.cons (.ret (.tup .nil)) .nil) .nil) (.cons (.asg (.nm 2) (.new (.bin .Mult (.lst (.cons (.cst (.int (0))) .nil)) (.bin .Sub (.bin .Add (.blt .len (.cons (.var 0) .nil)) (.blt .len (.cons (.var 1) .nil))) (.cst (.int (1))))))) (.cons (.for_ (.nm 3) (.rng (.cons (.blt .len (.cons (.var 0) .nil)) .nil)) (.cons (.for_ (.nm 4) (.rng (.cons (.blt .len (.cons (.var 1) .nil)) .nil)) (.cons (.stix (.var 2) (.bin .Add (.var 3) (.var 4)) (.bin .Add (.sub (.var 2) (.bin .Add (.var 3) (.var 4))) (.bin .Mult (.sub (.var 0) (.var 3)) (.sub (.var 1) (.var 4))))) .nil)) .nil)) (.cons (.ret (.blt .tuple (.cons (.var 2) .nil))) .nil))))
def B_law_at (i__law_low : Nat) : St := (.cons (.asg (.tup (.cons (.nm 5) (.cons (.nm 6) (.cons (.nm 7) (.cons (.nm 8) .nil))))) (.tup (.cons (.sub (.var 1) (.cst (.int (0)))) (.cons (.sub (.var 1) (.cst (.int (1)))) (.cons (.cst (.int (0))) (.cons (.bin .Sub (.blt .len (.cons (.var 0) .nil)) (.cst (.int (1)))) .nil)))))) (.cons (.for_ (.nm 2) (.rng (.cons (.blt .len (.cons (.var 0) .nil)) .nil)) (.cons (.asg (.nm 9) (.sub (.var 0) (.var 2))) (.cons (.for_ (.nm 4) (.rng (.cons (.bin .Sub (.var 8) (.var 2)) .nil)) (.cons (.asg (.nm 9) (.bin .Mult (.var 9) (.var 5))) .nil)) (.cons (.for_ (.nm 4) (.rng (.cons (.var 2) .nil)) (.cons (.asg (.nm 9) (.bin .Mult (.var 9) (.var 6))) .nil)) (.cons (.asg (.nm 7) (.bin .Add (.var 7) (.var 9))) .nil))))) (.cons (.asg (.nm 3) (.cst (.int (1)))) (.cons (.for_ (.nm 4) (.rng (.cons (.blt .max (.cons (.cst (.int (0))) (.cons (.var 8) .nil))) .nil)) (.cons (.asg (.nm 3) (.bin .Mult (.var 3) (.var 6))) .nil)) (.cons (.ret (.call i__law_low (.cons (.var 7) (.cons (.var 3) .nil)))) .nil)))))
def B_law_polynomial (i__law_take i__law_trim : Nat) : St := (.cons (.ifs (.cmp .Eq (.call i__law_take (.cons (.var 0) (.cons (.cst (.int (14))) .nil))) (.cst (.int (0)))) (.cons (.ret (.tup .nil)) .nil) .nil) (.cons (.asg (.nm 3) (.comp [4] (.bin .Sub (.call i__law_take (.cons (.var 0) (.cons (.bin .Add (.bin .Mult (.cst (.int (2))) (.var 2)) (.cst (.int (1)))) .nil))) (.var 2)) (.nm 4) (.rng (.cons (.bin .Add (.cst (.int (1))) (.call i__law_take (.cons (.var 0) (.cons (.bin .Add (.var 1) (.cst (.int (1)))) .nil)))) .nil)) .nil)) (.cons (.asg (.nm 3) (.comp [5] (.ite (.cmp .Gt (.call i__law_take (.cons (.var 0) (.cons (.cst (.int (4))) .nil))) (.cst (.int (0)))) (.var 5) (.cst (.int (0)))) (.nm 5) (.seq (.var 3)) .nil)) (.cons (.ret (.ite (.cmp .NotEq (.call i__law_trim (.cons (.var 3) .nil)) (.tup .nil)) (.call i__law_trim (.cons (.var 3) .nil)) (.tup (.cons (.bin .Add (.cst (.int (1))) (.call i__law_take (.cons (.var 0) (.cons (.var 2) .nil)))) .nil)))) .nil))))
def B_law_drawn (i__law_low i__law_take : Nat) : St := (.cons (.ret (.call i__law_low (.cons (.bin .Sub (.call i__law_take (.cons (.var 0) (.cons (.bin .Add (.bin .Mult (.cst (.int (2))) (.var 1)) (.cst (.int (1)))) .nil))) (.var 1)) (.cons (.bin .Add (.cst (.int (1))) (.call i__law_take (.cons (.var 0) (.cons (.sub (.lst (.cons (.cst (.int (1))) (.cons (.cst (.int (4))) (.cons (.var 1) .nil)))) (.call i__law_take (.cons (.var 0) (.cons (.cst (.int (3))) .nil)))) .nil)))) .nil)))) .nil)
def B_law_far (i__law_polynomial i__law_take : Nat) : St := (.cons (.ret (.call i__law_polynomial (.cons (.var 0) (.cons (.cst (.int (8))) (.cons (.sub (.lst (.cons (.cst (.int (3))) (.cons (.cst (.int (20))) (.cons (.bin .Pow (.cst (.int (10))) (.cst (.int (30)))) .nil)))) (.call i__law_take (.cons (.var 0) (.cons (.cst (.int (3))) .nil)))) .nil))))) .nil)
def B_law_right (i__law_take i__law_sum i__law_product i_plus i_times i_scaled i__law_same i_power i__law_at i_value i__law_plus i__law_times : Nat) : St := (.cons (.asg (.tup (.cons (.nm 10) (.cons (.nm 11) .nil))) (.tup (.cons (.bin .Sub (.call i__law_take (.cons (.var 0) (.cons (.cst (.int (41))) .nil))) (.cst (.int (20)))) (.cons (.call i__law_take (.cons (.var 0) (.cons (.ite (.cmp .Lt (.blt .len (.cons (.var 1) .nil)) (.cst (.int (4)))) (.cst (.int (7))) (.cst (.int (3)))) .nil))) .nil)))) (.cons (.asg (.nm 4) (.lst (.cons (.call i__law_sum (.cons (.var 1) (.cons (.var 2) .nil))) (.cons (.call i__law_product (.cons (.var 1) (.cons (.var 2) .nil))) (.cons (.ite (.cmp .NotEq (.var 10) (.cst (.int (0)))) (.blt .tuple (.cons (.comp [12] (.bin .Mult (.var 10) (.var 12)) (.nm 12) (.seq (.var 1)) .nil) .nil)) (.tup .nil)) .nil))))) (.cons (.asg (.nm 5) (.lst (.cons (.call i_plus (.cons (.var 1) (.cons (.var 2) .nil))) (.cons (.call i_times (.cons (.var 1) (.cons (.var 2) .nil))) (.cons (.call i_scaled (.cons (.var 1) (.cons (.var 10) .nil))) .nil))))) (.cons (.ifs (.or (.not (.call i__law_same (.cons (.var 5) (.cons (.var 4) .nil)))) (.not (.call i__law_same (.cons (.lst (.cons (.callk i_plus .nil (.cons (.var 2) (.cons (.var 1) .nil)) [1, 0]) (.cons (.callk i_times .nil (.cons (.var 2) (.cons (.var 1) .nil)) [1, 0]) (.cons (.callk i_scaled .nil (.cons (.var 10) (.cons (.var 1) .nil)) [1, 0]) .nil)))) (.cons (.var 4) .nil))))) (.cons (.ret (.cst (.bool false))) .nil) .nil) (.cons (.asg (.nm 6) (.tup (.cons (.cst (.int (1))) .nil))) (.cons (.for_ (.nm 7) (.rng (.cons (.var 11) .nil)) (.cons (.asg (.nm 6) (.call i__law_product (.cons (.var 6) (.cons (.var 1) .nil)))) .nil)) (.cons (.ifs (.not (.call i__law_same (.cons (.lst (.cons (.call i_power (.cons (.var 1) (.cons (.var 11) .nil))) (.cons (.callk i_power .nil (.cons (.var 11) (.cons (.var 1) .nil)) [1, 0]) .nil))) (.cons (.lst (.cons (.var 6) (.cons (.var 6) .nil))) .nil)))) (.cons (.ret (.cst (.bool false))) .nil) .nil) (.cons (.asg (.nm 8) (.lst (.cons (.call i__law_at (.cons (.var 1) (.cons (.var 3) .nil))) (.cons (.call i__law_at (.cons (.var 2) (.cons (.var 3) .nil))) .nil)))) (.cons (.ifs (.not (.call i__law_same (.cons (.lst (.cons (.call i_value (.cons (.var 1) (.cons (.var 3) .nil))) (.cons (.callk i_value .nil (.cons (.var 3) (.cons (.var 2) .nil)) [1, 0]) .nil))) (.cons (.var 8) .nil)))) (.cons (.ret (.cst (.bool false))) .nil) .nil) (.cons (.asg (.nm 9) (.lst (.cons (.call i__law_plus (.cons (.sub (.var 8) (.cst (.int (0)))) (.cons (.sub (.var 8) (.cst (.int (1)))) .nil))) (.cons (.call i__law_times (.cons (.sub (.var 8) (.cst (.int (0)))) (.cons (.sub (.var 8) (.cst (.int (1)))) .nil))) (.cons (.call i__law_times (.cons (.tup (.cons (.var 10) (.cons (.cst (.int (1))) .nil))) (.cons (.sub (.var 8) (.cst (.int (0)))) .nil))) .nil))))) (.cons (.ret (.call i__law_same (.cons (.lst (.cons (.call i_value (.cons (.sub (.var 5) (.cst (.int (0)))) (.cons (.var 3) .nil))) (.cons (.call i_value (.cons (.sub (.var 5) (.cst (.int (1)))) (.cons (.var 3) .nil))) (.cons (.call i_value (.cons (.sub (.var 5) (.cst (.int (2)))) (.cons (.var 3) .nil))) .nil)))) (.cons (.var 9) .nil)))) .nil)))))))))))
def B_at_integer : St := (.cons (.asg (.nm 2) (.cst (.int (0)))) (.cons (.for_ (.nm 3) (.seq (.var 0)) (.cons (.asg (.nm 2) (.bin .Add (.bin .Mult (.var 2) (.var 1)) (.var 3))) .nil)) (.cons (.ret (.var 2)) .nil)))
def B_divisor (i_check_polynomial i_at_integer : Nat) : St := (.cons (.expr (.call i_check_polynomial (.cons (.var 0) .nil))) (.cons (.asg (.nm 1) (.cst (.int (0)))) (.cons (.for_ (.nm 2) (.rng (.cons (.blt .len (.cons (.var 0) .nil)) .nil)) (.cons (.asg (.nm 1) (.blt .gcd (.cons (.var 1) (.cons (.call i_at_integer (.cons (.var 0) (.cons (.var 2) .nil))) .nil)))) .nil)) (.cons (.ret (.var 1)) .nil))))
def B_law_pot : St := (.cons (.par [4, 5] (.cons (.bin .Add (.bin .Mult (.cst (.int (92821))) (.var 1)) (.cst (.int (17)))) (.cons (.new (.lst .nil)) .nil))) (.cons (.for_ (.nm 3) (.seq (.slk (.var 0) (.cons (.var 1) .nil) .nil (.cons (.var 2) .nil))) (.cons (.asg (.nm 4) (.bin .Mod (.blt .int (.cons (.bin .Add (.bin .Mult (.var 4) (.cst (.int (1000003)))) (.var 3)) .nil)) (.cst (.int (2305843009213693951))))) (.cons (.ifs (.cmp .GtE (.var 3) (.bin .Pow (.cst (.int (10))) (.cst (.int (18))))) (.cons (.expr (.mth .append (.var 5) (.cons (.bin .Sub (.var 3) (.bin .Pow (.cst (.int (10))) (.cst (.int (18))))) .nil))) .nil) .nil) .nil))) (.cons (.ret (.lstm (.cons (.var 4) (.cons (.cst (.int (0))) (.cons (.cst (.int (0))) (.cons (.var 5) .nil)))))) .nil)))
def B_law_take' : St := (.cons (.ifs (.and (.cmp .Eq (.subm (.var 0) (.cst (.int (1)))) (.cst (.int (0)))) (.cmp .NotEq (.subm (.var 0) (.cst (.int (3)))) (.lst .nil))) (.cons (.stixm (.var 0) (.cst (.int (1))) (.mth .popAt (.subm (.var 0) (.cst (.int (3)))) (.cons (.cst (.int (0))) .nil))) .nil) .nil) (.cons (.ifs (.cmp .Gt (.subm (.var 0) (.cst (.int (1)))) (.cst (.int (0)))) (.cons (.asg (.nm 3) (.bin .Mod (.blt .int (.cons (.subm (.var 0) (.cst (.int (1)))) .nil)) (.var 1))) (.cons (.stixm (.var 0) (.cst (.int (1))) (.bin .FloorDiv (.subm (.var 0) (.cst (.int (1)))) (.var 1))) (.cons (.ret (.var 3)) .nil))) .nil) (.cons (.stixm (.var 0) (.cst (.int (2))) (.bin .Add (.subm (.var 0) (.cst (.int (2)))) (.cst (.int (1))))) (.cons (.asg (.nm 2) (.bin .Mod (.blt .int (.cons (.bin .Pow (.bin .Add (.subm (.var 0) (.cst (.int (0)))) (.bin .Mult (.cst (.int (6151))) (.subm (.var 0) (.cst (.int (2)))))) (.cst (.int (3)))) .nil)) (.cst (.int (2305843009213693951))))) (.cons (.asg (.nm 2) (.bin .Mod (.blt .int (.cons (.bin .Pow (.bin .Add (.var 2) (.bin .Mult (.cst (.int (53))) (.subm (.var 0) (.cst (.int (2)))))) (.cst (.int (2)))) .nil)) (.cst (.int (1000000000000000003))))) (.cons (.ret (.bin .Mod (.blt .int (.cons (.bin .FloorDiv (.var 2) (.cst (.int (128)))) .nil)) (.var 1))) .nil))))))
def B_law_same' (i__law_same : Nat) : St := (.cons (.ifs (.isi (.var 1) [.tuple, .list]) (.cons (.ifs (.or (.cmp .NotEq (.isi (.var 0) [.tuple]) (.isi (.var 1) [.tuple])) (.cmp .NotEq (.isi (.var 0) [.list]) (.isi (.var 1) [.list]))) (.cons (.ret (.cst (.bool false))) .nil) .nil) (.cons (.ret (.and (.cmp .Eq (.blt .len (.cons (.var 0) .nil)) (.blt .len (.cons (.var 1) .nil))) (.blt .all (.cons (.comp [2, 3] (.call i__law_same (.cons (.var 2) (.cons (.var 3) .nil))) (.tup (.cons (.nm 2) (.cons (.nm 3) .nil))) (.zp (.var 0) (.var 1)) .nil) .nil)))) .nil)) .nil) (.cons (.ifs (.cmp .Is (.var 1) (.cst (.none))) (.cons (.ret (.cmp .Is (.var 0) (.cst (.none)))) .nil) .nil) (.cons (.ifs (.isi (.var 1) [.bool, .str]) (.cons (.ret (.and (.cmp .Eq (.isi (.var 0) [.bool]) (.isi (.var 1) [.bool])) (.and (.isi (.var 0) [.bool, .str]) (.cmp .Eq (.var 0) (.var 1))))) .nil) .nil) (.cons (.ret (.and (.isi (.var 0) [.int]) (.and (.not (.isi (.var 0) [.bool])) (.cmp .Eq (.var 0) (.var 1))))) .nil))))
def B_law_stripped : St := (.cons (.asg (.nm 1) (.blt .len (.cons (.comp [2] (.cst (.int (1))) (.nm 2) (.rng (.cons (.blt .len (.cons (.var 0) .nil)) .nil)) (.cmp .Eq (.comp [3] (.var 3) (.nm 3) (.seq (.sl (.var 0) .nil (.cons (.bin .Add (.var 2) (.cst (.int (1)))) .nil))) (.cmp .NotEq (.var 3) (.cst (.int (0))))) (.lst .nil))) .nil))) (.cons (.ret (.blt .tuple (.cons (.sl (.var 0) (.cons (.var 1) .nil) .nil) .nil))) .nil))
def B_law_add (i__law_stripped : Nat) : St := (.cons (.asg (.nm 2) (.blt .max (.cons (.blt .len (.cons (.var 0) .nil)) (.cons (.blt .len (.cons (.var 1) .nil)) .nil)))) (.cons (.par [3, 4] (.cons (.bin .Add (.bin .Mult (.tup (.cons (.cst (.int (0))) .nil)) (.bin .Sub (.var 2) (.blt .len (.cons (.var 0) .nil)))) (.blt .tuple (.cons (.var 0) .nil))) (.cons (.bin .Add (.bin .Mult (.tup (.cons (.cst (.int (0))) .nil)) (.bin .Sub (.var 2) (.blt .len (.cons (.var 1) .nil)))) (.blt .tuple (.cons (.var 1) .nil))) .nil))) (.cons (.ret (.call i__law_stripped (.cons (.comp [5, 6] (.bin .Add (.var 5) (.var 6)) (.tup (.cons (.nm 5) (.cons (.nm 6) .nil))) (.zp (.var 3) (.var 4)) .nil) .nil))) .nil)))
def B_law_mul : St := (.cons (.ifs (.or (.cmp .Eq (.var 0) (.tup .nil)) (.cmp .Eq (.var 1) (.tup .nil))) (.cons (.ret (.tup .nil)) .nil) .nil) (.cons (.asg (.nm 2) (.new (.bin .Mult (.lst (.cons (.cst (.int (0))) .nil)) (.bin .Sub (.bin .Add (.blt .len (.cons (.var 0) .nil)) (.blt .len (.cons (.var 1) .nil))) (.cst (.int (1))))))) (.cons (.for_ (.tup (.cons (.nm 3) (.cons (.nm 4) .nil))) (.enm (.var 0)) (.cons (.for_ (.tup (.cons (.nm 5) (.cons (.nm 6) .nil))) (.enm (.var 1)) (.cons (.stix (.var 2) (.bin .Add (.var 3) (.var 5)) (.bin .Add (.sub (.var 2) (.bin .Add (.var 3) (.var 5))) (.bin .Mult (.var 4) (.var 6)))) .nil)) .nil)) (.cons (.ret (.blt .tuple (.cons (.var 2) .nil))) .nil))))
def B_law_at' : St := (.cons (.asg (.tup (.cons (.nm 2) (.cons (.nm 3) .nil))) (.tup (.cons (.cst (.int (0))) (.cons (.cst (.int (1))) .nil)))) (.cons (.for_ (.tup (.cons (.nm 4) (.cons (.nm 5) .nil))) (.enm (.var 0)) (.cons (.asg (.nm 3) (.ite (.cmp .Gt (.var 4) (.cst (.int (0)))) (.bin .Mult (.var 3) (.sub (.var 1) (.cst (.int (1))))) (.cst (.int (1))))) (.cons (.asg (.nm 2) (.bin .Add (.bin .Mult (.var 2) (.sub (.var 1) (.cst (.int (0))))) (.bin .Mult (.var 5) (.var 3)))) .nil))) (.cons (.ret (.tup (.cons (.var 2) (.cons (.var 3) .nil)))) .nil)))
def B_law_fits : St := (.cons (.ret (.and (.cmp .LtE (.blt .len (.cons (.var 0) .nil)) (.bin .Add (.var 1) (.cst (.int (1))))) (.blt .all (.cons (.comp [2] (.cmp .LtE (.blt .abs (.cons (.var 2) .nil)) (.cst (.int (20)))) (.nm 2) (.seq (.var 0)) .nil) .nil)))) .nil)
def B_law_factor' (i__law_take : Nat) : St := (.cons (.ifs (.cmp .Eq (.call i__law_take (.cons (.var 0) (.cons (.cst (.int (2))) .nil))) (.cst (.int (0)))) (.cons (.ret (.tup (.cons (.sub (.lst (.cons (.cst (.int (1))) (.cons (.cst (.int (1))) (.cons (.cst (.int (1))) (.cons (.cst (.int (2))) (.cons (.cst (.int (3))) .nil)))))) (.call i__law_take (.cons (.var 0) (.cons (.cst (.int (5))) .nil)))) (.cons (.bin .Sub (.call i__law_take (.cons (.var 0) (.cons (.cst (.int (7))) .nil))) (.cst (.int (3)))) .nil)))) .nil) .nil) (.cons (.ret (.tup (.cons (.sub (.lst (.cons (.cst (.int (1))) (.cons (.cst (.int (1))) (.cons (.cst (.int (2))) .nil)))) (.call i__law_take (.cons (.var 0) (.cons (.cst (.int (3))) .nil)))) (.cons (.bin .Sub (.call i__law_take (.cons (.var 0) (.cons (.cst (.int (5))) .nil))) (.cst (.int (2)))) (.cons (.bin .Sub (.call i__law_take (.cons (.var 0) (.cons (.cst (.int (7))) .nil))) (.cst (.int (3)))) .nil))))) .nil))
def B_law_drawn' (i__law_take i__law_stripped i__law_factor i__law_mul i__law_fits i__law_add : Nat) : St := (.cons (.asg (.nm 2) (.call i__law_take (.cons (.var 0) (.cons (.cst (.int (6))) .nil)))) (.cons (.ifs (.cmp .Eq (.var 2) (.cst (.int (0)))) (.cons (.asg (.nm 5) (.bin .Add (.cst (.int (1))) (.call i__law_take (.cons (.var 0) (.cons (.bin .Add (.var 1) (.cst (.int (1)))) .nil))))) (.cons (.ret (.call i__law_stripped (.cons (.comp [8] (.sub (.lst (.cons (.cst (.int (0))) (.cons (.cst (.int (1))) (.cons (.neg (.cst (.int (1)))) (.cons (.cst (.int (3))) (.cons (.neg (.cst (.int (4)))) (.cons (.cst (.int (7))) (.cons (.cst (.int (20))) (.cons (.neg (.cst (.int (20)))) .nil))))))))) (.call i__law_take (.cons (.var 0) (.cons (.cst (.int (8))) .nil)))) (.nm 8) (.rng (.cons (.var 5) .nil)) .nil) .nil))) .nil)) .nil) (.cons (.par [6, 7] (.cons (.tup (.cons (.sub (.lst (.cons (.cst (.int (1))) (.cons (.cst (.int (1))) (.cons (.cst (.int (1))) (.cons (.cst (.int (2))) (.cons (.neg (.cst (.int (1)))) (.cons (.neg (.cst (.int (2)))) .nil))))))) (.call i__law_take (.cons (.var 0) (.cons (.cst (.int (6))) .nil)))) .nil)) (.cons (.tup (.cons (.cst (.int (1))) .nil)) .nil))) (.cons (.for_ (.nm 3) (.rng (.cons (.bin .Add (.cst (.int (1))) (.call i__law_take (.cons (.var 0) (.cons (.cst (.int (4))) .nil)))) .nil)) (.cons (.asg (.nm 7) (.ite (.cmp .Gt (.call i__law_take (.cons (.var 0) (.cons (.cst (.int (3))) .nil))) (.cst (.int (0)))) (.call i__law_factor (.cons (.var 0) .nil)) (.var 7))) (.cons (.asg (.nm 4) (.call i__law_mul (.cons (.var 6) (.cons (.var 7) .nil)))) (.cons (.asg (.nm 6) (.ite (.call i__law_fits (.cons (.var 4) (.cons (.var 1) .nil))) (.var 4) (.var 6))) .nil)))) (.cons (.asg (.nm 4) (.call i__law_add (.cons (.var 6) (.cons (.tup (.cons (.sub (.lst (.cons (.cst (.int (1))) (.cons (.neg (.cst (.int (1)))) (.cons (.cst (.int (2))) (.cons (.neg (.cst (.int (3)))) .nil))))) (.call i__law_take (.cons (.var 0) (.cons (.cst (.int (4))) .nil)))) .nil)) .nil)))) (.cons (.ret (.ite (.and (.cmp .Eq (.var 2) (.cst (.int (1)))) (.call i__law_fits (.cons (.var 4) (.cons (.var 1) .nil)))) (.var 4) (.var 6))) .nil))))))
def B_law_both : St := (.cons (.par [0, 1] (.cons (.blt .abs (.cons (.var 0) .nil)) (.cons (.blt .abs (.cons (.var 1) .nil)) .nil))) (.cons (.for_ (.nm 2) (.rng (.cons (.cst (.int (100000))) .nil)) (.cons (.ifs (.cmp .Eq (.var 1) (.cst (.int (0)))) (.cons .brk .nil) .nil) (.cons (.par [0, 1] (.cons (.var 1) (.cons (.bin .Mod (.blt .int (.cons (.var 0) .nil)) (.var 1)) .nil))) .nil))) (.cons (.ret (.var 0)) .nil)))
def B_law_neighbours (i__law_take i__law_mul : Nat) : St := (.cons (.par [3, 4] (.cons (.bin .Add (.cst (.int (1))) (.call i__law_take (.cons (.var 0) (.cons (.cst (.int (4))) .nil)))) (.cons (.neg (.call i__law_take (.cons (.var 0) (.cons (.cst (.int (3))) .nil)))) .nil))) (.cons (.asg (.nm 1) (.tup (.cons (.cst (.int (1))) .nil))) (.cons (.for_ (.nm 2) (.rng (.cons (.var 3) .nil)) (.cons (.asg (.nm 1) (.call i__law_mul (.cons (.var 1) (.cons (.ite (.cmp .NotEq (.bin .Add (.var 4) (.var 2)) (.cst (.int (0)))) (.tup (.cons (.cst (.int (1))) (.cons (.bin .Add (.var 4) (.var 2)) .nil))) (.tup (.cons (.cst (.int (1))) (.cons (.cst (.int (0))) .nil)))) .nil)))) .nil)) (.cons (.ret (.tup (.cons (.var 3) (.cons (.var 1) .nil)))) .nil))))
def B_law_common' (i__law_both i__law_at : Nat) : St := (.cons (.asg (.nm 1) (.cst (.int (0)))) (.cons (.for_ (.nm 2) (.rng (.cons (.neg (.cst (.int (30)))) (.cons (.cst (.int (31))) .nil))) (.cons (.asg (.nm 1) (.call i__law_both (.cons (.sub (.call i__law_at (.cons (.var 0) (.cons (.tup (.cons (.var 2) (.cons (.cst (.int (1))) .nil))) .nil))) (.cst (.int (0)))) (.cons (.var 1) .nil)))) .nil)) (.cons (.ret (.var 1)) .nil)))
def B_left_by (i_at_integer : Nat) : St := (.cons (.ret (.comp [2] (.bin .Mod (.call i_at_integer (.cons (.var 0) (.cons (.var 2) .nil))) (.var 1)) (.nm 2) (.rng (.cons (.var 1) .nil)) .nil)) .nil)
def B_period_of : St := (.cons (.asg (.nm 1) (.blt .len (.cons (.var 0) .nil))) (.cons (.for_ (.nm 2) (.rng (.cons (.cst (.int (1))) (.cons (.bin .Add (.var 1) (.cst (.int (1)))) .nil))) (.cons (.ifs (.and (.cmp .Eq (.bin .Mod (.var 1) (.var 2)) (.cst (.int (0)))) (.cmp .Eq (.sl (.var 0) (.cons (.var 2) .nil) .nil) (.sl (.var 0) .nil (.cons (.bin .Sub (.var 1) (.var 2)) .nil)))) (.cons (.ret (.var 2)) .nil) .nil) .nil)) (.cons (.ret (.var 1)) .nil)))
def B_period (i_check_polynomial i_check_integer i_period_of i_left_by : Nat) : St := (.cons (.expr (.call i_check_polynomial (.cons (.var 0) .nil))) (.cons (.expr (.call i_check_integer (.cons (.var 1) (.cons (.cst (.int (1))) .nil)))) (.cons (.ret (.call i_period_of (.cons (.call i_left_by (.cons (.var 0) (.cons (.var 1) .nil))) .nil))) .nil)))
def B_remainders (i_check_polynomial i_check_integer i_left_by i_period_of : Nat) : St := (.cons (.expr (.call i_check_polynomial (.cons (.var 0) .nil))) (.cons (.expr (.call i_check_integer (.cons (.var 1) (.cons (.cst (.int (1))) .nil)))) (.cons (.asg (.nm 2) (.call i_left_by (.cons (.var 0) (.cons (.var 1) .nil)))) (.cons (.ret (.new (.sl (.var 2) .nil (.cons (.call i_period_of (.cons (.var 2) .nil)) .nil)))) .nil))))
def B_law_value : St := (.cons (.asg (.nm 2) (.cst (.int (0)))) (.cons (.for_ (.nm 3) (.seq (.var 0)) (.cons (.asg (.nm 2) (.bin .Add (.bin .Mult (.var 2) (.var 1)) (.var 3))) .nil)) (.cons (.ret (.var 2)) .nil)))
def B_law_period (i__law_value : Nat) : St := (.cons (.asg (.nm 2) (.comp [4] (.bin .Mod (.blt .int (.cons (.call i__law_value (.cons (.var 0) (.cons (.var 4) .nil))) .nil)) (.var 1)) (.nm 4) (.rng (.cons (.var 1) .nil)) .nil)) (.cons (.for_ (.nm 3) (.rng (.cons (.cst (.int (1))) (.cons (.bin .Add (.var 1) (.cst (.int (1)))) .nil))) (.cons (.ifs (.and (.cmp .Eq (.bin .Mod (.blt .int (.cons (.var 1) .nil)) (.var 3)) (.cst (.int (0)))) (.cmp .Eq (.var 2) (.bin .Add (.sl (.var 2) (.cons (.var 3) .nil) .nil) (.sl (.var 2) .nil (.cons (.var 3) .nil))))) (.cons (.ret (.tup (.cons (.var 3) (.cons (.var 2) .nil)))) .nil) .nil) .nil)) (.cons (.ret (.tup (.cons (.var 1) (.cons (.var 2) .nil)))) .nil)))
def B_law_m (i__law_take : Nat) : St := (.cons (.asg (.nm 1) (.call i__law_take (.cons (.var 0) (.cons (.cst (.int (4))) .nil)))) (.cons (.ifs (.cmp .Eq (.var 1) (.cst (.int (0)))) (.cons (.ret (.bin .Add (.cst (.int (1))) (.call i__law_take (.cons (.var 0) (.cons (.cst (.int (1000))) .nil))))) .nil) .nil) (.cons (.ifs (.cmp .Eq (.var 1) (.cst (.int (1)))) (.cons (.ret (.sub (.lst (.cons (.cst (.int (4))) (.cons (.cst (.int (8))) (.cons (.cst (.int (9))) (.cons (.cst (.int (16))) (.cons (.cst (.int (25))) (.cons (.cst (.int (27))) (.cons (.cst (.int (32))) (.cons (.cst (.int (64))) (.cons (.cst (.int (81))) (.cons (.cst (.int (128))) (.cons (.cst (.int (243))) (.cons (.cst (.int (512))) (.cons (.cst (.int (625))) .nil)))))))))))))) (.call i__law_take (.cons (.var 0) (.cons (.cst (.int (13))) .nil))))) .nil) .nil) (.cons (.ret (.ite (.cmp .Eq (.var 1) (.cst (.int (2)))) (.sub (.lst (.cons (.cst (.int (1))) (.cons (.cst (.int (2))) (.cons (.cst (.int (6))) (.cons (.cst (.int (12))) (.cons (.cst (.int (30))) (.cons (.cst (.int (60))) (.cons (.cst (.int (1000))) .nil)))))))) (.call i__law_take (.cons (.var 0) (.cons (.cst (.int (7))) .nil)))) (.bin .Add (.cst (.int (1))) (.call i__law_take (.cons (.var 0) (.cons (.cst (.int (40))) .nil)))))) .nil))))
end Pv
namespace Pv.k50
open PySem PySem.Spec PyProof.Rows L2
abbrev P0 : Program := PySem.Challenge.pw_wholesigns_k50_whole_periods_and_remaind
def top (i : Nat) : Stmt := P0.main.body.getD i (.Pass ⟨0, 0, 0, 0⟩)
def sPar : Stmt → Arguments
  | .FunctionDef _ a _ _ _ _ _ _ _ _ => a
  | _ => ⟨[], [], none, [], [], none, []⟩
def sBody : Stmt → List Stmt
  | .FunctionDef _ _ b _ _ _ _ _ _ _ => b
  | _ => []
def sScope : Stmt → Scope
  | .FunctionDef _ _ _ _ _ _ s _ _ _ => s
  | _ => ⟨.function, [], false, false, []⟩
def b0 : St := B_is_integer
def f0 : Fs := ⟨"is_integer", sPar (top 5), sBody (top 5), sScope (top 5), [("value" : Str)], [("value" : Str)], ⟨1, 1, b0⟩⟩
def b1 : St := B_check_integer 0
def f1 : Fs := ⟨"check_integer", sPar (top 6), sBody (top 6), sScope (top 6), [("told" : Str), ("least" : Str)], [("told" : Str), ("least" : Str)], ⟨2, 2, b1⟩⟩
def b2 : St := B_is_polynomial 0
def f2 : Fs := ⟨"is_polynomial", sPar (top 8), sBody (top 8), sScope (top 8), [("told" : Str)], [("told" : Str), ("a" : Str)], ⟨1, 2, b2⟩⟩
def b3 : St := B_check_polynomial 2
def f3 : Fs := ⟨"check_polynomial", sPar (top 9), sBody (top 9), sScope (top 9), [("f" : Str)], [("f" : Str)], ⟨1, 1, b3⟩⟩
def b4 : St := B_at_integer
def f4 : Fs := ⟨"at_integer", sPar (top 11), sBody (top 11), sScope (top 11), [("f" : Str), ("n" : Str)], [("f" : Str), ("n" : Str), ("total" : Str), ("a" : Str)], ⟨2, 4, b4⟩⟩
def b5 : St := B_left_by 4
def f5 : Fs := ⟨"left_by", sPar (top 12), sBody (top 12), sScope (top 12), [("f" : Str), ("m" : Str)], [("f" : Str), ("m" : Str), ("n" : Str)], ⟨2, 3, b5⟩⟩
def b6 : St := B_period_of
def f6 : Fs := ⟨"period_of", sPar (top 13), sBody (top 13), sScope (top 13), [("row" : Str)], [("row" : Str), ("many" : Str), ("p" : Str)], ⟨1, 3, b6⟩⟩
def b7 : St := B_period 3 1 6 5
def f7 : Fs := ⟨"period", sPar (top 14), sBody (top 14), sScope (top 14), [("f" : Str), ("m" : Str)], [("f" : Str), ("m" : Str)], ⟨2, 2, b7⟩⟩
def b8 : St := B_remainders 3 1 5 6
def f8 : Fs := ⟨"remainders", sPar (top 15), sBody (top 15), sScope (top 15), [("f" : Str), ("m" : Str)], [("f" : Str), ("m" : Str), ("row" : Str)], ⟨2, 3, b8⟩⟩
def b9 : St := B_law_pot
def f9 : Fs := ⟨"_law_pot", sPar (top 17), sBody (top 17), sScope (top 17), [("script" : Str), ("deep" : Str), ("rounds" : Str)], [("script" : Str), ("deep" : Str), ("rounds" : Str), ("cell" : Str), ("mixed" : Str), ("great" : Str)], ⟨3, 6, b9⟩⟩
def b10 : St := B_law_take'
def f10 : Fs := ⟨"_law_take", sPar (top 18), sBody (top 18), sScope (top 18), [("pot" : Str), ("many" : Str)], [("pot" : Str), ("many" : Str), ("number" : Str), ("found" : Str)], ⟨2, 4, b10⟩⟩
def b11 : St := B_law_same' 11
def f11 : Fs := ⟨"_law_same", sPar (top 19), sBody (top 19), sScope (top 19), [("found" : Str), ("due" : Str)], [("found" : Str), ("due" : Str), ("a" : Str), ("b" : Str)], ⟨2, 4, b11⟩⟩
def b12 : St := B_law_stripped
def f12 : Fs := ⟨"_law_stripped", sPar (top 20), sBody (top 20), sScope (top 20), [("row" : Str)], [("row" : Str), ("at" : Str), ("k" : Str), ("a" : Str)], ⟨1, 4, b12⟩⟩
def b13 : St := B_law_add 12
def f13 : Fs := ⟨"_law_add", sPar (top 21), sBody (top 21), sScope (top 21), [("f" : Str), ("g" : Str)], [("f" : Str), ("g" : Str), ("many" : Str), ("one" : Str), ("other" : Str), ("a" : Str), ("b" : Str)], ⟨2, 7, b13⟩⟩
def b14 : St := B_law_mul
def f14 : Fs := ⟨"_law_mul", sPar (top 22), sBody (top 22), sScope (top 22), [("f" : Str), ("g" : Str)], [("f" : Str), ("g" : Str), ("found" : Str), ("k" : Str), ("a" : Str), ("j" : Str), ("b" : Str)], ⟨2, 7, b14⟩⟩
def b15 : St := B_law_fits
def f15 : Fs := ⟨"_law_fits", sPar (top 23), sBody (top 23), sScope (top 23), [("f" : Str), ("most" : Str)], [("f" : Str), ("most" : Str), ("a" : Str)], ⟨2, 3, b15⟩⟩
def b16 : St := B_law_factor' 10
def f16 : Fs := ⟨"_law_factor", sPar (top 24), sBody (top 24), sScope (top 24), [("pot" : Str)], [("pot" : Str)], ⟨1, 1, b16⟩⟩
def b17 : St := B_law_drawn' 10 12 16 14 15 13
def f17 : Fs := ⟨"_law_drawn", sPar (top 25), sBody (top 25), sScope (top 25), [("pot" : Str), ("most" : Str)], [("pot" : Str), ("most" : Str), ("way" : Str), ("turn" : Str), ("more" : Str), ("many" : Str), ("found" : Str), ("last" : Str), ("k" : Str)], ⟨2, 9, b17⟩⟩
def b18 : St := B_law_value
def f18 : Fs := ⟨"_law_value", sPar (top 26), sBody (top 26), sScope (top 26), [("f" : Str), ("n" : Str)], [("f" : Str), ("n" : Str), ("total" : Str), ("a" : Str)], ⟨2, 4, b18⟩⟩
def b19 : St := B_law_period 18
def f19 : Fs := ⟨"_law_period", sPar (top 27), sBody (top 27), sScope (top 27), [("f" : Str), ("m" : Str)], [("f" : Str), ("m" : Str), ("row" : Str), ("p" : Str), ("n" : Str)], ⟨2, 5, b19⟩⟩
def b20 : St := B_law_m 10
def f20 : Fs := ⟨"_law_m", sPar (top 28), sBody (top 28), sScope (top 28), [("pot" : Str)], [("pot" : Str), ("way" : Str)], ⟨1, 2, b20⟩⟩
def L_1 : St := (.asg (.nm 2) (.call 9 (.cons (.var 0) (.cons (.var 1) (.cons (.cst (.int (4))) .nil)))))
def L_2 : St := (.par [4, 5] (.cons (.call 17 (.cons (.var 2) (.cons (.cst (.int (6))) .nil))) (.cons (.call 20 (.cons (.var 2) .nil)) .nil)))
def L_3 : St := (.for_ (.nm 3) (.seq (.tup (.cons (.var 4) (.cons (.call 14 (.cons (.tup (.cons (.cst (.int (1))) (.cons (.cst (.int (1))) .nil))) (.cons (.tup (.cons (.cst (.int (1))) (.cons (.cst (.int (0))) .nil))) .nil))) (.cons (.call 14 (.cons (.var 4) (.cons (.tup (.cons (.cst (.int (1))) (.cons (.cst (.int (0))) .nil))) .nil))) (.cons (.call 13 (.cons (.var 4) (.cons (.tup (.cons (.cst (.int (1))) (.cons (.cst (.int (0))) .nil))) .nil))) .nil)))))) (.cons (.ifs (.call 15 (.cons (.var 3) (.cons (.cst (.int (6))) .nil))) (.cons (.asg (.tup (.cons (.nm 9) (.cons (.nm 10) .nil))) (.call 19 (.cons (.var 3) (.cons (.var 5) .nil)))) (.cons (.asg (.nm 6) (.call 8 (.cons (.var 3) (.cons (.var 5) .nil)))) (.cons (.ifs (.not (.callb 11 (.cons (.lstm (.cons (.call 7 (.cons (.var 3) (.cons (.var 5) .nil))) (.cons (.callk 7 .nil (.cons (.var 5) (.cons (.var 3) .nil)) [1, 0]) (.cons (.var 6) .nil)))) (.cons (.lst (.cons (.var 9) (.cons (.var 9) (.cons (.sl (.var 10) .nil (.cons (.var 9) .nil)) .nil)))) .nil)))) (.cons (.ret (.cst (.bool false))) .nil) .nil) (.cons (.expr (.mth .append (.var 6) (.cons (.neg (.cst (.int (1)))) .nil))) (.cons (.ifs (.not (.callb 11 (.cons (.lstm (.cons (.callk 8 .nil (.cons (.var 5) (.cons (.var 3) .nil)) [1, 0]) (.cons (.call 7 (.cons (.var 3) (.cons (.cst (.int (1))) .nil))) (.cons (.call 8 (.cons (.var 3) (.cons (.cst (.int (1))) .nil))) .nil)))) (.cons (.lst (.cons (.sl (.var 10) .nil (.cons (.var 9) .nil)) (.cons (.cst (.int (1))) (.cons (.lst (.cons (.cst (.int (0))) .nil)) .nil)))) .nil)))) (.cons (.ret (.cst (.bool false))) .nil) .nil) (.cons (.for_ (.nm 7) (.rng (.cons (.neg (.cst (.int (40)))) (.cons (.cst (.int (41))) .nil))) (.cons (.ifs (.cmp .NotEq (.bin .Mod (.blt .int (.cons (.call 18 (.cons (.var 3) (.cons (.var 7) .nil))) .nil)) (.var 5)) (.sub (.var 10) (.bin .Mod (.blt .int (.cons (.var 7) .nil)) (.var 9)))) (.cons (.ret (.cst (.bool false))) .nil) .nil) .nil)) (.cons (.for_ (.nm 8) (.seq (.tup (.cons (.cst (.int (2))) (.cons (.cst (.int (3))) (.cons (.cst (.int (5))) (.cons (.cst (.int (7))) .nil)))))) (.cons (.ifs (.and (.cmp .Eq (.bin .Mod (.blt .int (.cons (.var 5) .nil)) (.var 8)) (.cst (.int (0)))) (.cmp .NotEq (.bin .Mod (.blt .int (.cons (.var 9) .nil)) (.call 7 (.cons (.var 3) (.cons (.bin .FloorDiv (.var 5) (.var 8)) .nil)))) (.cst (.int (0))))) (.cons (.ret (.cst (.bool false))) .nil) .nil) .nil)) .nil))))))) .nil) .nil))
def b21 : St := (.cons (.for_ (.nm 1) (.rng (.cons (.cst (.int (4))) .nil)) (.cons L_1 (.cons L_2 (.cons L_3 .nil)))) (.cons (.ret (.cst (.bool true))) .nil))
def f21 : Fs := ⟨"law", sPar (top 29), sBody (top 29), sScope (top 29), [("script" : Str)], [("script" : Str), ("turn" : Str), ("pot" : Str), ("g" : Str), ("f" : Str), ("m" : Str), ("told" : Str), ("n" : Str), ("by" : Str), ("p" : Str), ("row" : Str)], ⟨1, 11, b21⟩⟩
def fs : List Fs := [f0, f1, f2, f3, f4, f5, f6, f7, f8, f9, f10, f11, f12, f13, f14, f15, f16, f17, f18, f19, f20, f21]
def c0 : Cc where
  N := []
  sc := ⟨.function, [], false, false, []⟩
  fs := [(("is_integer" : Str), [("value" : Str)]), (("check_integer" : Str), [("told" : Str), ("least" : Str)]), (("is_polynomial" : Str), [("told" : Str)]), (("check_polynomial" : Str), [("f" : Str)]), (("at_integer" : Str), [("f" : Str), ("n" : Str)]), (("left_by" : Str), [("f" : Str), ("m" : Str)]), (("period_of" : Str), [("row" : Str)]), (("period" : Str), [("f" : Str), ("m" : Str)]), (("remainders" : Str), [("f" : Str), ("m" : Str)]), (("_law_pot" : Str), [("script" : Str), ("deep" : Str), ("rounds" : Str)]), (("_law_take" : Str), [("pot" : Str), ("many" : Str)]), (("_law_same" : Str), [("found" : Str), ("due" : Str)]), (("_law_stripped" : Str), [("row" : Str)]), (("_law_add" : Str), [("f" : Str), ("g" : Str)]), (("_law_mul" : Str), [("f" : Str), ("g" : Str)]), (("_law_fits" : Str), [("f" : Str), ("most" : Str)]), (("_law_factor" : Str), [("pot" : Str)]), (("_law_drawn" : Str), [("pot" : Str), ("most" : Str)]), (("_law_value" : Str), [("f" : Str), ("n" : Str)]), (("_law_period" : Str), [("f" : Str), ("m" : Str)]), (("_law_m" : Str), [("pot" : Str)]), (("law" : Str), [("script" : Str)])]
  gl := []
  bs := [.all, .len, .int, .tuple, .max, .abs]
  ms := [("isinstance" : Str), ("int" : Str), ("bool" : Str), ("tuple" : Str), ("range" : Str), ("list" : Str), ("zip" : Str), ("str" : Str), ("enumerate" : Str)]
  kw := [(7, 0, [("m" : Str), ("f" : Str)], [1, 0]), (8, 0, [("m" : Str), ("f" : Str)], [1, 0])]
  cl := []
def L : Lw := ⟨c0, fs, [], []⟩
def li : Nat := 21
end Pv.k50
namespace Pv.k50
open PySem PySem.W PySem.Calls PyProof.Rows PySem.Spec
abbrev RwL : OpenRow := OpenLaw.row PySem.Challenge.rw_wholesigns_k50_whole_periods_and_remaind
abbrev q0 : Program := view RwL.prog [29]
def loose : List PySem.Str := [("__name__" : PySem.Str), ("SignError" : PySem.Str), ("InvalidPolynomial" : PySem.Str), ("InvalidInteger" : PySem.Str), ("is_integer" : PySem.Str), ("check_integer" : PySem.Str), ("is_polynomial" : PySem.Str), ("check_polynomial" : PySem.Str), ("at_integer" : PySem.Str), ("left_by" : PySem.Str), ("period_of" : PySem.Str), ("period" : PySem.Str), ("remainders" : PySem.Str), ("_law_pot" : PySem.Str), ("_law_take" : PySem.Str), ("_law_same" : PySem.Str), ("_law_stripped" : PySem.Str), ("_law_add" : PySem.Str), ("_law_mul" : PySem.Str), ("_law_fits" : PySem.Str), ("_law_factor" : PySem.Str), ("_law_drawn" : PySem.Str), ("_law_value" : PySem.Str), ("_law_period" : PySem.Str), ("_law_m" : PySem.Str)]
set_option maxRecDepth 1000000 in
theorem run (w : World) : HandSHeadRun.RunEqI RwL q0 (L.hook 4) (L.ob 4) 20000 loose w := by
  unfold HandSHeadRun.RunEqI
  kernel_rfl
end Pv.k50
namespace Pv
open PySem
def Ret {α : Type} (Q : α → W → Prop) (X : Nat → D → W → Prop) : R α → Prop
  | .ok a w => Q a w
  | .exc c x w => X c x w
  | .no => False
def RetS (K : Fl → W → Prop) : RS → Prop
  | .mk f w => K f w
  | .no => False
def OptP {α : Type} : Option α → (α → Prop) → Prop
  | some a, p => p a
  | none, _ => False
def BoolP : IV → (Bool → Prop) → Prop
  | .d (.bool b), p => p b
  | _, _ => False
def DatP : IV → (D → Prop) → Prop
  | .d x, p => p x
  | _, _ => False
def IntP : D → (Int → Prop) → Prop
  | .int i, p => p i
  | _, _ => False
def RefP : IV → (Nat → Prop) → Prop
  | .ref n, p => p n
  | _, _ => False
def CelP : Option Cell → (List D → Prop) → Prop
  | some (.lst xs), p => p xs
  | _, _ => False
def sq (k : Sl → W → Prop) (K : Fl → W → Prop) : Fl → W → Prop
  | .next σ, w => k σ w
  | f, w => K f w
def finK (n : Nat) (Q : IV → W → Prop) (X : Nat → D → W → Prop) : Fl → W → Prop
  | .ret v, w => (match v with
    | .ref k => if k < n then Q v (w.take n) else Q v w
    | _ => Q v (w.take n))
  | .next _, w => Q (.d .none) (w.take n)
  | .exc c x _, w => X c x (w.take n)
  | _, _ => False
section
variable {α β : Type} {Q : α → W → Prop} {X : Nat → D → W → Prop} {K : Fl → W → Prop} {E : En} {σ : Sl} {w : W}
@[simp] theorem Ret_ok {a : α} : Ret Q X (.ok a w) = Q a w := rfl
@[simp] theorem Ret_no : Ret Q X (.no : R α) = False := rfl
@[simp] theorem Ret_exc {c : Nat} {x : D} : Ret Q X (.exc c x w : R α) = X c x w := rfl
@[simp] theorem Ret_bind {r : R β} {f : β → W → R α} : Ret Q X (r.bind f) = Ret (fun a w => Ret Q X (f a w)) X r := by cases r <;> rfl
theorem Ret.mono {Q' : α → W → Prop} {X' : Nat → D → W → Prop} {r : R α} (h : Ret Q X r) (q : ∀ a w, Q a w → Q' a w) (x : ∀ c d w, X c d w → X' c d w) : Ret Q' X' r := by
  cases r with
  | ok a w => exact q a w h
  | exc c d w => exact x c d w h
  | no => exact h
theorem Ret.imp {Q' : α → W → Prop} {r : R α} (h : Ret Q X r) (q : ∀ a w, Q a w → Q' a w) : Ret Q' X r := h.mono q fun _ _ _ h => h
@[simp] theorem OptP_some {a : α} {p : α → Prop} : OptP (some a) p = p a := rfl
@[simp] theorem OptP_none {p : α → Prop} : OptP none p = False := rfl
@[simp] theorem OptP_map {f : β → α} {o : Option β} {p : α → Prop} : OptP (o.map f) p = OptP o fun b => p (f b) := by cases o <;> rfl
@[simp] theorem OptP_bind {f : β → Option α} {o : Option β} {p : α → Prop} : OptP (o.bind f) p = OptP o fun b => OptP (f b) p := by cases o <;> rfl
@[simp] theorem OptP_if {c : Prop} [Decidable c] {a b : Option α} {p : α → Prop} : OptP (if c then a else b) p = if c then OptP a p else OptP b p := by by_cases h : c <;> simp [h]
@[simp] theorem Ret_ofO {o : Option α} : Ret Q X (ofO o w) = OptP o fun a => Q a w := by cases o <;> rfl
@[simp] theorem Ret_if {c : Prop} [Decidable c] {a b : R α} : Ret Q X (if c then a else b) = if c then Ret Q X a else Ret Q X b := by by_cases h : c <;> simp [h]
@[simp] theorem BoolP_b {b : Bool} {p : Bool → Prop} : BoolP (.d (.bool b)) p = p b := rfl
@[simp] theorem IntP_i {i : Int} {p : Int → Prop} : IntP (.int i) p = p i := rfl
@[simp] theorem RefP_r {n : Nat} {p : Nat → Prop} : RefP (.ref n) p = p n := rfl
@[simp] theorem CelP_l {xs : List D} {p : List D → Prop} : CelP (some (.lst xs)) p = p xs := rfl
@[simp] theorem DatP_d {x : D} {p : D → Prop} : DatP (.d x) p = p x := rfl
@[simp] theorem Ret_tst {r : R IV} {f : Bool → W → R α} : Ret Q X (tst r f) = Ret (fun v w => BoolP v fun b => Ret Q X (f b w)) X r := by
  unfold tst
  rw [Ret_bind]
  congr 1
  funext v w
  cases v with
  | d x => cases x <;> rfl
  | _ => rfl
end
section
variable {Q : IV → W → Prop} {X : Nat → D → W → Prop} {K : Fl → W → Prop} {E : En} {σ : Sl} {w : W} {a b c e : Ex} {s r : St}
@[simp] theorem ev_var {i : Nat} : ev E (.var i) σ w = ofO (slot σ i) w := rfl
@[simp] theorem ev_frz {i : Nat} : ev E (.frz i) σ w = (ofO (slot σ i) w).bind fun v w => frzW w v := rfl
@[simp] theorem ev_cst {x : D} : ev E (.cst x) σ w = .ok (.d x) w := rfl
@[simp] theorem ev_dct : ev E .dct σ w = .ok (.d (.dict [])) w := rfl
@[simp] theorem ev_glob {j : Nat} : ev E (.glob j) σ w = ofO ((E.G j).map IV.d) w := rfl
@[simp] theorem ev_new : ev E (.new a) σ w = (ev E a σ w).bind fun v w1 => newW w1 v := rfl
@[simp] theorem ev_lstm : ev E (.lstm a) σ w = (evA E a σ w).bind fun vs w1 => if okL vs.length && vs.all (elOk w1.length) then .ok (.ref w1.length) (w1 ++ [.mix vs]) else .no := rfl
@[simp] theorem ev_subm : ev E (.subm a b) σ w = (ev E a σ w).bind fun u w1 => (ev E b σ w1).bind fun v w2 => ofO (subM w2 u v) w2 := rfl
@[simp] theorem ev_fz : ev E (.fz a) σ w = (ev E a σ w).bind fun v w1 => frzW w1 v := rfl
@[simp] theorem evA_nil : evA E .nil σ w = .ok [] w := rfl
@[simp] theorem evA_cons : evA E (.cons a b) σ w = (ev E a σ w).bind fun v w1 => (evA E b σ w1).bind fun vs w2 => .ok (v :: vs) w2 := rfl
@[simp] theorem ev_neg : Ret Q X (ev E (.neg a) σ w) = Ret (fun v w1 => DatP v fun x => match x with
    | .int i => Q (.d (.int (-i))) w1
    | _ => False) X (ev E a σ w) := by
  show Ret Q X ((ev E a σ w).bind _) = _
  rw [Ret_bind]
  congr 1
  funext v w1
  cases v with
  | d x => cases x <;> rfl
  | _ => rfl
@[simp] theorem ev_not : ev E (.not a) σ w = tst (ev E a σ w) fun b w1 => .ok (.d (.bool (!b))) w1 := rfl
@[simp] theorem ev_and : ev E (.and a b) σ w = tst (ev E a σ w) fun c w1 => if c then ev E b σ w1 else .ok (.d (.bool false)) w1 := rfl
@[simp] theorem ev_or : ev E (.or a b) σ w = tst (ev E a σ w) fun c w1 => if c then .ok (.d (.bool true)) w1 else ev E b σ w1 := rfl
@[simp] theorem ev_ite : ev E (.ite c a b) σ w = tst (ev E c σ w) fun k w1 => if k then ev E a σ w1 else ev E b σ w1 := rfl
@[simp] theorem ev_callb {f : Nat} : ev E (.callb f a) σ w = (evA E a σ w).bind fun vs w1 => borW E.Φ f vs w1 := rfl
@[simp] theorem ev_call {f : Nat} : ev E (.call f a) σ w = (evA E a σ w).bind fun vs w1 => E.Φ f vs w1 := rfl
@[simp] theorem ev_callk {f : Nat} {p : List Nat} : ev E (.callk f a b p) σ w = (evA E a σ w).bind fun vs w1 => (evA E b σ w1).bind fun zs w2 => match pick (vs ++ zs) p with
    | some us => E.Φ f us w2
    | none => .no := rfl
@[simp] theorem ev_isi {ts : List T} : ev E (.isi a ts) σ w = (ev E a σ w).bind fun v w1 => ofO ((isiV w1 ts v).map fun k => .d (.bool k)) w1 := rfl
@[simp] theorem Ret_bin {o : Operator} : Ret Q X (ev E (.bin o a b) σ w) = Ret (fun u w1 => Ret (fun v w2 => OptP (rd w2 u) fun x => OptP (rd w2 v) fun y => OptP (binD o x y) fun z => Q (.d z) w2) X (ev E b σ w1)) X (ev E a σ w) := by
  show Ret Q X ((ev E a σ w).bind _) = _
  rw [Ret_bind]
  congr 1
  funext u w1
  rw [Ret_bind]
  congr 1
  funext v w2
  cases rd w2 u with
  | none => rfl
  | some x => cases rd w2 v with
    | none => rfl
    | some y => simp
@[simp] theorem Ret_sub : Ret Q X (ev E (.sub a b) σ w) = Ret (fun u w1 => Ret (fun v w2 => OptP (rd w2 u) fun x => OptP (rd w2 v) fun y => OptP (subD x y) fun z => Q (.d z) w2) X (ev E b σ w1)) X (ev E a σ w) := by
  show Ret Q X ((ev E a σ w).bind _) = _
  rw [Ret_bind]
  congr 1
  funext u w1
  rw [Ret_bind]
  congr 1
  funext v w2
  cases rd w2 u with
  | none => rfl
  | some x => cases rd w2 v with
    | none => rfl
    | some y => simp
@[simp] theorem Ret_cmp {o : CmpOp} : Ret Q X (ev E (.cmp o a b) σ w) = Ret (fun u w1 => Ret (fun v w2 => OptP (cmpV o w2 u v) fun k => Q (.d (.bool k)) w2) X (ev E b σ w1)) X (ev E a σ w) := by
  show Ret Q X ((ev E a σ w).bind _) = _
  rw [Ret_bind]
  congr 1
  funext u w1
  rw [Ret_bind]
  congr 1
  funext v w2
  simp
@[simp] theorem Ret_blt {f : B} : Ret Q X (ev E (.blt f a) σ w) = Ret (fun vs w1 => OptP (rdAll w1 vs) fun xs => OptP (bltD f xs) fun z => Q (.d z) w1) X (evA E a σ w) := by
  show Ret Q X ((evA E a σ w).bind _) = _
  rw [Ret_bind]
  congr 1
  funext vs w1
  cases rdAll w1 vs with
  | none => rfl
  | some xs => simp
@[simp] theorem Ret_tup : Ret Q X (ev E (.tup a) σ w) = Ret (fun vs w1 => OptP (purs vs) fun xs => okL xs.length = true ∧ Q (.d (.tuple xs)) w1) X (evA E a σ w) := by
  show Ret Q X ((evA E a σ w).bind _) = _
  rw [Ret_bind]
  congr 1
  funext vs w1
  cases purs vs with
  | none => rfl
  | some xs => by_cases h : okL xs.length = true <;> simp [h]
@[simp] theorem Ret_lst : Ret Q X (ev E (.lst a) σ w) = Ret (fun vs w1 => OptP (purs vs) fun xs => okL xs.length = true ∧ Q (.d (.list xs)) w1) X (evA E a σ w) := by
  show Ret Q X ((evA E a σ w).bind _) = _
  rw [Ret_bind]
  congr 1
  funext vs w1
  cases purs vs with
  | none => rfl
  | some xs => by_cases h : okL xs.length = true <;> simp [h]
@[simp] theorem evP_nil : evP E .nil σ w = .ok none w := rfl
@[simp] theorem Ret_evP {Q : Option Int → W → Prop} : Ret Q X (evP E (.cons a b) σ w) = Ret (fun v w1 => DatP v fun x => match x with
    | .int i => Q (some i) w1
    | _ => False) X (ev E a σ w) := by
  show Ret Q X ((ev E a σ w).bind _) = _
  rw [Ret_bind]
  congr 1
  funext v w1
  cases v with
  | d x => cases x <;> rfl
  | _ => rfl
@[simp] theorem Ret_sl : Ret Q X (ev E (.sl a b c) σ w) = Ret (fun u w1 => Ret (fun l w2 => Ret (fun h w3 => OptP (rd w3 u) fun x => OptP (slD x l h) fun z => Q (.d z) w3) X (evP E c σ w2)) X (evP E b σ w1)) X (ev E a σ w) := by
  show Ret Q X ((ev E a σ w).bind _) = _
  rw [Ret_bind]
  congr 1
  funext u w1
  rw [Ret_bind]
  congr 1
  funext l w2
  rw [Ret_bind]
  congr 1
  funext h w3
  cases rd w3 u with
  | none => rfl
  | some x => simp
@[simp] theorem Ret_slk : Ret Q X (ev E (.slk a b c e) σ w) = Ret (fun u w1 => Ret (fun l w2 => Ret (fun h w3 => Ret (fun k w4 => OptP (rd w4 u) fun x => OptP (slkD x l h k) fun z => Q (.d z) w4) X (evP E e σ w3)) X (evP E c σ w2)) X (evP E b σ w1)) X (ev E a σ w) := by
  show Ret Q X ((ev E a σ w).bind _) = _
  rw [Ret_bind]
  congr 1
  funext u w1
  rw [Ret_bind]
  congr 1
  funext l w2
  rw [Ret_bind]
  congr 1
  funext h w3
  rw [Ret_bind]
  congr 1
  funext k w4
  cases rd w4 u with
  | none => rfl
  | some x => simp
@[simp] theorem Ret_mth {m : M} : Ret Q X (ev E (.mth m a b) σ w) = Ret (fun u w1 => isLst (rd w1 u) = true ∧ Ret (fun vs w2 => OptP (purs vs) fun xs => Ret Q X (mthW m u xs w2)) X (evA E b σ w1)) X (ev E a σ w) := by
  show Ret Q X ((ev E a σ w).bind _) = _
  rw [Ret_bind]
  congr 1
  funext u w1
  by_cases h : isLst (rd w1 u) = true
  · simp only [h, if_true, Ret_bind, true_and]
    congr 1
    funext vs w2
    cases purs vs <;> rfl
  · simp [h]
theorem Ret_chain {o o' : CmpOp} : Ret Q X (ev E (.chain o o' a b c) σ w) = Ret (fun u w1 => Ret (fun v w2 => OptP (cmpV o w2 u v) fun k => if k = true then Ret (fun z w3 => OptP (cmpV o' w3 v z) fun k => Q (.d (.bool k)) w3) X (ev E c σ w2) else Q (.d (.bool false)) w2) X (ev E b σ w1)) X (ev E a σ w) := by
  show Ret Q X ((ev E a σ w).bind _) = _
  rw [Ret_bind]
  congr 1
  funext u w1
  rw [Ret_bind]
  congr 1
  funext v w2
  rw [Ret_bind, Ret_ofO]
  cases cmpV o w2 u v with
  | none => rfl
  | some k =>
    simp only [OptP_some, Ret_if, Ret_ok, Ret_bind, Ret_ofO, OptP_map]
@[simp] theorem RetS_mk {f : Fl} : RetS K (.mk f w) = K f w := rfl
@[simp] theorem RetS_no : RetS K .no = False := rfl
@[simp] theorem RetS_onE {α : Type} {r : R α} {f : α → W → RS} : RetS K (onE r σ f) = Ret (fun a w => RetS K (f a w)) (fun c x w => K (.exc c x σ) w) r := by cases r <;> rfl
@[simp] theorem RetS_if {c : Prop} [Decidable c] {a b : RS} : RetS K (if c then a else b) = if c then RetS K a else RetS K b := by by_cases h : c <;> simp [h]
@[simp] theorem RetS_ofS {o : Option Sl} : RetS K (ofS o w) = OptP o fun σ => K (.next σ) w := by cases o <;> rfl
theorem RetS.mono {K' : Fl → W → Prop} {r : RS} (h : RetS K r) (q : ∀ f w, K f w → K' f w) : RetS K' r := by
  cases r with
  | mk f w => exact q f w h
  | no => exact h
@[simp] theorem sq_next {k : Sl → W → Prop} : sq k K (.next σ) w = k σ w := rfl
@[simp] theorem sq_ret {k : Sl → W → Prop} {v : IV} : sq k K (.ret v) w = K (.ret v) w := rfl
@[simp] theorem sq_brk {k : Sl → W → Prop} : sq k K (.brk σ) w = K (.brk σ) w := rfl
@[simp] theorem sq_cnt {k : Sl → W → Prop} : sq k K (.cnt σ) w = K (.cnt σ) w := rfl
@[simp] theorem sq_exc {k : Sl → W → Prop} {c : Nat} {x : D} : sq k K (.exc c x σ) w = K (.exc c x σ) w := rfl
@[simp] theorem evS_nil : evS E .nil σ w = .mk (.next σ) w := rfl
@[simp] theorem RetS_cons : RetS K (evS E (.cons s r) σ w) = RetS (sq (fun σ w => RetS K (evS E r σ w)) K) (evS E s σ w) := by
  show RetS K (match evS E s σ w with
    | .mk (.next σ1) w1 => evS E r σ1 w1
    | o => o) = _
  cases evS E s σ w with
  | no => rfl
  | mk f w => cases f <;> rfl
@[simp] theorem evS_stuck : evS E .stuck σ w = .no := rfl
@[simp] theorem evS_pass : evS E .pass σ w = .mk (.next σ) w := rfl
@[simp] theorem evS_brk : evS E .brk σ w = .mk (.brk σ) w := rfl
@[simp] theorem evS_cnt : evS E .cnt σ w = .mk (.cnt σ) w := rfl
@[simp] theorem evS_expr : evS E (.expr e) σ w = onE (ev E e σ w) σ fun _ w1 => .mk (.next σ) w1 := rfl
@[simp] theorem evS_ret : evS E (.ret e) σ w = onE (ev E e σ w) σ fun v w1 => .mk (.ret v) w1 := rfl
@[simp] theorem evS_retN : evS E .retN σ w = .mk (.ret (.d .none)) w := rfl
@[simp] theorem evS_asgN {i : Nat} : evS E (.asg (.nm i) e) σ w = onE (ev E e σ w) σ fun v w1 => .mk (.next (σ.set i (some v))) w1 := rfl
@[simp] theorem RetS_asgT {ts : Tg} : RetS K (evS E (.asg (.tup ts) e) σ w) = Ret (fun v w1 => DatP v fun x => OptP (asgT (.tup ts) x σ) fun σ1 => K (.next σ1) w1) (fun c x w => K (.exc c x σ) w) (ev E e σ w) := by
  show RetS K (onE (ev E e σ w) σ _) = _
  rw [RetS_onE]
  congr 1
  funext v w1
  cases v with
  | d x => exact RetS_ofS
  | _ => rfl
@[simp] theorem evS_par {is : List Nat} : evS E (.par is e) σ w = onE (evA E e σ w) σ fun vs w1 => ofS (setAll is vs σ) w1 := rfl
@[simp] theorem RetS_ifs : RetS K (evS E (.ifs e s r) σ w) = Ret (fun v w => BoolP v fun k => if k = true then RetS K (evS E s σ w) else RetS K (evS E r σ w)) (fun c x w => K (.exc c x σ) w) (ev E e σ w) := by
  show RetS K (onE (tst (ev E e σ w) fun k w => .ok k w) σ fun k w1 => if k then evS E s σ w1 else evS E r σ w1) = _
  rw [RetS_onE, Ret_tst]
  congr 1
  funext v w
  congr 1
  funext k
  simp
@[simp] theorem RetS_stix : RetS K (evS E (.stix a b c) σ w) = Ret (fun v w1 => Ret (fun u w2 => Ret (fun i w3 => RefP u fun n => DatP i fun ix => DatP v fun x => CelP w3[n]? fun xs => OptP (stL xs ix x) fun ys => K (.next σ) (w3.set n (.lst ys)))
    (fun c x w => K (.exc c x σ) w) (ev E b σ w2)) (fun c x w => K (.exc c x σ) w) (ev E a σ w1)) (fun c x w => K (.exc c x σ) w) (ev E c σ w) := by
  show RetS K (onE (ev E c σ w) σ _) = _
  rw [RetS_onE]
  congr 1
  funext v w1
  rw [RetS_onE]
  congr 1
  funext u w2
  rw [RetS_onE]
  congr 1
  funext i w3
  cases u with
  | ref n =>
    cases i with
    | d ix =>
      cases v with
      | d x =>
        show RetS K (match w3[n]? with
          | some (.lst xs) => (match stL xs ix x with
            | some ys => .mk (.next σ) (w3.set n (.lst ys))
            | none => .no)
          | _ => .no) = CelP w3[n]? _
        cases w3[n]? with
        | none => rfl
        | some q =>
          cases q with
          | lst xs =>
            show RetS K (match stL xs ix x with
              | some ys => .mk (.next σ) (w3.set n (.lst ys))
              | none => .no) = OptP (stL xs ix x) _
            cases stL xs ix x <;> rfl
          | _ => rfl
      | _ => rfl
    | _ => rfl
  | _ => rfl
@[simp] theorem RetS_auix : RetS K (evS E (.auix .Add a b c) σ w) = Ret (fun u w1 => Ret (fun i w2 => RefP u fun n => DatP i fun ix => OptP (rdC w2[n]?) fun x => OptP (subD x ix) fun old => Ret (fun v w3 => DatP v fun x => IntP old fun a => IntP x fun b => CelP w3[n]? fun xs => OptP (stL xs ix (.int (a + b))) fun ys => K (.next σ) (w3.set n (.lst ys)))
    (fun c x w => K (.exc c x σ) w) (ev E c σ w2)) (fun c x w => K (.exc c x σ) w) (ev E b σ w1)) (fun c x w => K (.exc c x σ) w) (ev E a σ w) := by
  show RetS K (onE (ev E a σ w) σ _) = _
  rw [RetS_onE]
  congr 1
  funext u w1
  rw [RetS_onE]
  congr 1
  funext i w2
  cases u with
  | ref n =>
    cases i with
    | d ix =>
      show RetS K (match (rdC w2[n]?).bind fun x => subD x ix with
        | some old => _
        | none => .no) = OptP (rdC w2[n]?) _
      cases rdC w2[n]? with
      | none => rfl
      | some x =>
        show RetS K (match subD x ix with
          | some old => _
          | none => .no) = OptP (subD x ix) _
        cases subD x ix with
        | none => rfl
        | some old =>
          show RetS K (onE (ev E c σ w2) σ _) = _
          rw [RetS_onE]
          show Ret _ _ _ = Ret _ _ _
          congr 1
          funext v w3
          cases v with
          | d y =>
            cases old with
            | int i =>
              cases y with
              | int j =>
                show RetS K (match Operator.Add, PyData.int i, PyData.int j, w3[n]? with
                  | .Add, .int a, .int b, some (.lst xs) => (match stL xs ix (.int (a + b)) with
                    | some ys => .mk (.next σ) (w3.set n (.lst ys))
                    | none => .no)
                  | _, _, _, _ => .no) = CelP w3[n]? _
                cases w3[n]? with
                | none => rfl
                | some q =>
                  cases q with
                  | lst xs =>
                    show RetS K (match stL xs ix (.int (i + j)) with
                      | some ys => .mk (.next σ) (w3.set n (.lst ys))
                      | none => .no) = OptP (stL xs ix (.int (i + j))) _
                    cases stL xs ix (.int (i + j)) <;> rfl
                  | _ => rfl
              | _ => rfl
            | _ => rfl
          | _ => rfl
    | _ => rfl
  | _ => rfl
@[simp] theorem Ret_fin {n : Nat} {rs : RS} : Ret Q X (fin n rs) = RetS (finK n Q X) rs := by
  cases rs with
  | no => rfl
  | mk f w =>
    cases f with
    | ret v =>
      cases v with
      | ref k =>
        show Ret Q X (if k < n then .ok (.ref k) (w.take n) else .ok (.ref k) w) = (if k < n then Q (.ref k) (w.take n) else Q (.ref k) w)
        by_cases h : k < n <;> simp [h]
      | _ => rfl
    | _ => rfl
theorem finK_ref {n k : Nat} : finK n Q X (.ret (.ref k)) w = (if k < n then Q (.ref k) (w.take n) else Q (.ref k) w) := rfl
@[simp] theorem finK_d {n : Nat} {x : D} : finK n Q X (.ret (.d x)) w = Q (.d x) (w.take n) := rfl
@[simp] theorem finK_next {n : Nat} : finK n Q X (.next σ) w = Q (.d .none) (w.take n) := rfl
@[simp] theorem finK_brk {n : Nat} : finK n Q X (.brk σ) w = False := rfl
@[simp] theorem finK_cnt {n : Nat} : finK n Q X (.cnt σ) w = False := rfl
@[simp] theorem finK_exc {n c : Nat} {x : D} : finK n Q X (.exc c x σ) w = X c x (w.take n) := rfl
end
end Pv
namespace Pv
open PySem
section
variable {Q : IV → W → Prop} {X : Nat → D → W → Prop} {K : Fl → W → Prop} {E : En} {σ : Sl} {w : W} {a b c e it : Ex} {s r : St} {t : Tg}
@[simp] theorem Ret_seq {Q : It → W → Prop} : Ret Q X (evI E (.seq a) σ w) = Ret (fun v w1 => OptP (toIt w1 v) fun J => Q J w1) X (ev E a σ w) := by
  show Ret Q X ((ev E a σ w).bind _) = _
  rw [Ret_bind]
  congr 1
  funext v w1
  exact Ret_ofO
@[simp] theorem Ret_rng {Q : It → W → Prop} : Ret Q X (evI E (.rng a) σ w) = Ret (fun vs w1 => OptP (purs vs) fun xs => OptP (rngD xs) fun ys => Q (.dat ys) w1) X (evA E a σ w) := by
  show Ret Q X ((evA E a σ w).bind _) = _
  rw [Ret_bind]
  congr 1
  funext vs w1
  cases purs vs with
  | none => rfl
  | some xs => simp
@[simp] theorem Ret_enm {Q : It → W → Prop} : Ret Q X (evI E (.enm a) σ w) = Ret (fun v w1 => DatP v fun x => OptP (itemsD x) fun ys => Q (.dat (enumD 0 ys)) w1) X (ev E a σ w) := by
  show Ret Q X ((ev E a σ w).bind _) = _
  rw [Ret_bind]
  congr 1
  funext v w1
  cases v with
  | d x => simp
  | _ => rfl
def ZipP : IV → IV → (List D → Prop) → Prop
  | .d (.tuple xs), .d (.tuple ys), p => p (zipD xs ys)
  | .d (.list xs), .d (.list ys), p => p (zipD xs ys)
  | _, _, _ => False
@[simp] theorem ZipP_t {xs ys : List D} {p : List D → Prop} : ZipP (.d (.tuple xs)) (.d (.tuple ys)) p = p (zipD xs ys) := rfl
@[simp] theorem ZipP_l {xs ys : List D} {p : List D → Prop} : ZipP (.d (.list xs)) (.d (.list ys)) p = p (zipD xs ys) := rfl
@[simp] theorem Ret_zp {Q : It → W → Prop} : Ret Q X (evI E (.zp a b) σ w) = Ret (fun u w1 => Ret (fun v w2 => ZipP u v fun zs => Q (.dat zs) w2) X (ev E b σ w1)) X (ev E a σ w) := by
  show Ret Q X ((ev E a σ w).bind _) = _
  rw [Ret_bind]
  congr 1
  funext u w1
  rw [Ret_bind]
  congr 1
  funext v w2
  cases u with
  | d x =>
    cases v with
    | d y => cases x <;> cases y <;> rfl
    | _ => cases x <;> rfl
  | _ => rfl
theorem Ret_elT {fc fe : Sl → W → R IV} {x : D} {Q : Option D → W → Prop} : Ret Q X (elF true t fc fe σ x w) = OptP (asgT t x σ) fun σ1 => Ret (fun v w1 => DatP v fun y => Q (some y) w1) X (fe σ1 w) := by
  unfold elF
  cases asgT t x σ with
  | none => rfl
  | some σ1 =>
    show Ret Q X ((fe σ1 w).bind _) = _
    rw [Ret_bind, OptP_some]
    congr 1
    funext v w1
    cases v <;> rfl
theorem Ret_elF {fc fe : Sl → W → R IV} {x : D} {Q : Option D → W → Prop} : Ret Q X (elF false t fc fe σ x w) = OptP (asgT t x σ) fun σ1 => Ret (fun v w1 => BoolP v fun b => if b = true then Ret (fun v w2 => DatP v fun y => Q (some y) w2) X (fe σ1 w1) else Q none w1) X (fc σ1 w) := by
  unfold elF
  cases asgT t x σ with
  | none => rfl
  | some σ1 =>
    show Ret Q X (tst (fc σ1 w) _) = _
    rw [Ret_tst, OptP_some]
    congr 1
    funext v w1
    congr 1
    funext b
    rw [Ret_if]
    cases b with
    | false => rfl
    | true =>
      rw [if_pos rfl, if_pos rfl, Ret_bind]
      congr 1
      funext v w2
      cases v <;> rfl
def compP (E : En) (own : List Nat) (e : Ex) (t : Tg) (c : Ex) (σ : Sl) (Q : List D → W → Prop) (X : Nat → D → W → Prop) : It → W → Prop
  | .dat xs, w => okL xs.length = true ∧ Ret Q X (compL (elF (isNil c) t (ev E c) (ev E e) (wip σ own)) xs w)
  | .cel n, w => Ret Q X (compC (elF (isNil c) t (ev E c) (ev E e) (wip σ own)) n E.q 0 w)
@[simp] theorem compP_dat {own : List Nat} {Q : List D → W → Prop} {xs : List D} : compP E own e t c σ Q X (.dat xs) w = (okL xs.length = true ∧ Ret Q X (compL (elF (isNil c) t (ev E c) (ev E e) (wip σ own)) xs w)) := rfl
@[simp] theorem compP_cel {own : List Nat} {Q : List D → W → Prop} {n : Nat} : compP E own e t c σ Q X (.cel n) w = Ret Q X (compC (elF (isNil c) t (ev E c) (ev E e) (wip σ own)) n E.q 0 w) := rfl
@[simp] theorem Ret_comp {own : List Nat} : Ret Q X (ev E (.comp own e t it c) σ w) = Ret (fun J w1 => compP E own e t c σ (fun ys w2 => Q (.d (.list ys)) w2) X J w1) X (evI E it σ w) := by
  show Ret Q X ((evI E it σ w).bind fun J w1 => (match J with
        | .dat xs => if okL xs.length then compL (elF (isNil c) t (ev E c) (ev E e) (wip σ own)) xs w1 else .no
        | .cel n => compC (elF (isNil c) t (ev E c) (ev E e) (wip σ own)) n E.q 0 w1).bind fun ys w2 => .ok (.d (.list ys)) w2) = _
  rw [Ret_bind]
  congr 1
  funext J w1
  rw [Ret_bind]
  cases J with
  | dat xs =>
    show Ret _ X (if okL xs.length then _ else .no) = _
    by_cases h : okL xs.length = true
    · rw [if_pos h, compP_dat]; simp [h]
    · rw [if_neg h, compP_dat]; simp [h]
  | cel n => rfl
theorem compL_inv {f : D → W → R (Option D)} {xs : List D} {Q : List D → W → Prop} (I : Nat → List D → W → Prop) (h0 : I 0 [] w)
    (hs : ∀ k x ys w, xs[k]? = some x → I k ys w → Ret (fun o w' => I (k + 1) (ys ++ o.toList) w') (fun _ _ _ => False) (f x w)) (hd : ∀ ys w, I xs.length ys w → Q ys w) : Ret Q X (compL f xs w) := by
  have gen : ∀ (zs : List D) (k : Nat) (acc : List D) (w : W), k + zs.length = xs.length → (∀ j, zs[j]? = xs[k + j]?) → I k acc w → Ret (fun ys w' => Q (acc ++ ys) w') X (compL f zs w) := by
    intro zs
    induction zs with
    | nil =>
      intro k acc w hl _ hi
      rw [List.length_nil, Nat.add_zero] at hl
      subst hl
      show Q (acc ++ []) w
      rw [List.append_nil]
      exact hd _ _ hi
    | cons z zs ih =>
      intro k acc w hl hx hi
      have hz : xs[k]? = some z := by rw [show k = k + 0 from rfl, ← hx 0]; rfl
      have h1 := hs k z acc w hz hi
      show Ret _ X (match f z w with
        | .ok o w1 => (compL f zs w1).bind fun ys w2 => .ok (o.toList ++ ys) w2
        | _ => .no)
      cases hf : f z w with
      | no => rw [hf] at h1; exact h1
      | exc _ _ _ => rw [hf] at h1; exact h1.elim
      | ok o w1 =>
        rw [hf] at h1
        show Ret _ X ((compL f zs w1).bind _)
        rw [Ret_bind]
        refine Ret.imp (ih (k + 1) (acc ++ o.toList) w1 (by rw [List.length_cons] at hl; omega) (fun j => ?_) h1) fun ys w2 h => ?_
        · have := hx (j + 1)
          rw [show k + 1 + j = k + (j + 1) by omega, ← this]
          rfl
        · rw [List.append_assoc] at h
          exact h
  exact gen xs 0 [] w (by simp) (fun j => by simp) h0
theorem compL_map {f : D → W → R (Option D)} {g : D → D} {xs : List D} (h : ∀ x ∈ xs, f x w = .ok (some (g x)) w) : compL f xs w = .ok (xs.map g) w := by
  induction xs with
  | nil => rfl
  | cons x xs ih =>
    show (match f x w with
      | .ok o w1 => (compL f xs w1).bind fun ys w2 => .ok (o.toList ++ ys) w2
      | _ => .no) = _
    rw [h x List.mem_cons_self]
    show (compL f xs w).bind _ = _
    rw [ih fun y hy => h y (List.mem_cons_of_mem _ hy)]
    rfl
def loopK (I : Sl → W → Prop) (K : Fl → W → Prop) : Fl → W → Prop
  | .next σ, w => I σ w
  | .cnt σ, w => I σ w
  | .brk σ, w => K (.next σ) w
  | f, w => K f w
section
variable {I : Sl → W → Prop}
@[simp] theorem loopK_next : loopK I K (.next σ) w = I σ w := rfl
@[simp] theorem loopK_cnt : loopK I K (.cnt σ) w = I σ w := rfl
@[simp] theorem loopK_brk : loopK I K (.brk σ) w = K (.next σ) w := rfl
@[simp] theorem loopK_ret {v : IV} : loopK I K (.ret v) w = K (.ret v) w := rfl
@[simp] theorem loopK_exc {c : Nat} {x : D} : loopK I K (.exc c x σ) w = K (.exc c x σ) w := rfl
end
def bodyF (E : En) (t : Tg) (b : St) : D → Sl → W → RS := fun x σ w => match asgT t x σ with
  | some σ1 => evS E b σ1 w
  | none => .no
@[simp] theorem RetS_body {x : D} : RetS K (bodyF E t s x σ w) = OptP (asgT t x σ) fun σ1 => RetS K (evS E s σ1 w) := by
  unfold bodyF
  cases asgT t x σ <;> rfl
def forP (E : En) (t : Tg) (b : St) (σ : Sl) (K : Fl → W → Prop) : It → W → Prop
  | .dat xs, w => okL xs.length = true ∧ RetS K (forL (bodyF E t b) xs σ w)
  | .cel n, w => RetS K (forC (bodyF E t b) n E.q 0 σ w)
@[simp] theorem forP_dat {xs : List D} : forP E t s σ K (.dat xs) w = (okL xs.length = true ∧ RetS K (forL (bodyF E t s) xs σ w)) := rfl
@[simp] theorem forP_cel {n : Nat} : forP E t s σ K (.cel n) w = RetS K (forC (bodyF E t s) n E.q 0 σ w) := rfl
@[simp] theorem RetS_for : RetS K (evS E (.for_ t it s) σ w) = Ret (fun J w1 => forP E t s σ K J w1) (fun c x w => K (.exc c x σ) w) (evI E it σ w) := by
  show RetS K (onE (evI E it σ w) σ fun J w1 => (match J with
    | .dat xs => if okL xs.length then forL (bodyF E t s) xs σ w1 else .no
    | .cel n => forC (bodyF E t s) n E.q 0 σ w1)) = _
  rw [RetS_onE]
  congr 1
  funext J w1
  cases J with
  | dat xs =>
    show RetS K (if okL xs.length then _ else .no) = _
    by_cases h : okL xs.length = true <;> simp [h]
  | cel n => rfl
theorem forL_inv {f : D → Sl → W → RS} {xs : List D} (I : Nat → Sl → W → Prop) (h0 : I 0 σ w) (hs : ∀ k x σ w, xs[k]? = some x → I k σ w → RetS (loopK (I (k + 1)) K) (f x σ w)) (hd : ∀ σ w, I xs.length σ w → K (.next σ) w) : RetS K (forL f xs σ w) := by
  have gen : ∀ (zs : List D) (k : Nat) (σ : Sl) (w : W), k + zs.length = xs.length → (∀ j, zs[j]? = xs[k + j]?) → I k σ w → RetS K (forL f zs σ w) := by
    intro zs
    induction zs with
    | nil =>
      intro k σ w hl _ hi
      rw [List.length_nil, Nat.add_zero] at hl
      subst hl
      exact hd _ _ hi
    | cons z zs ih =>
      intro k σ w hl hx hi
      have hz : xs[k]? = some z := by rw [show k = k + 0 from rfl, ← hx 0]; rfl
      have h1 := hs k z σ w hz hi
      have go : ∀ σ w, I (k + 1) σ w → RetS K (forL f zs σ w) := fun σ w h => ih (k + 1) σ w (by rw [List.length_cons] at hl; omega) (fun j => by
        have := hx (j + 1)
        rw [show k + 1 + j = k + (j + 1) by omega, ← this]
        rfl) h
      unfold forL
      cases hf : f z σ w with
      | no => rw [hf] at h1; exact h1
      | mk fl w1 =>
        rw [hf] at h1
        cases fl with
        | next σ1 => exact go σ1 w1 h1
        | cnt σ1 => exact go σ1 w1 h1
        | brk σ1 => exact h1
        | ret v => exact h1
        | exc c x σ1 => exact h1
  exact gen xs 0 σ w (by simp) (fun j => by simp) h0
theorem whlL_inv {c : Sl → W → R IV} {f : Sl → W → RS} {q : Nat} (I : Nat → Sl → W → Prop) {m : Nat} (hm : m < q) (h0 : I m σ w)
    (hs : ∀ m σ w, I m σ w → Ret (fun v w1 => BoolP v fun b => if b = true then ∃ m', m = m' + 1 ∧ RetS (loopK (I m') K) (f σ w1) else K (.next σ) w1) (fun c x w => K (.exc c x σ) w) (c σ w)) : RetS K (whlL c f q σ w) := by
  induction q generalizing m σ w with
  | zero => omega
  | succ q ih =>
    have h1 := hs m σ w h0
    unfold whlL
    rw [RetS_onE, Ret_tst]
    refine Ret.imp h1 fun v w1 h2 => ?_
    cases v with
    | d x =>
      cases x with
      | bool b =>
        rw [BoolP_b] at h2 ⊢
        rw [Ret_ok]
        cases b with
        | false => exact h2
        | true =>
          rw [if_pos rfl] at h2 ⊢
          obtain ⟨m', rfl, h3⟩ := h2
          cases hf : f σ w1 with
          | no => rw [hf] at h3; exact h3
          | mk fl w2 =>
            rw [hf] at h3
            cases fl with
            | next σ1 => exact ih (by omega) h3
            | cnt σ1 => exact ih (by omega) h3
            | brk σ1 => exact h3
            | ret v => exact h3
            | exc c x σ1 => exact h3
      | _ => exact h2
    | _ => exact h2
@[simp] theorem evS_whl : evS E (.whl e s) σ w = whlL (fun σ w => ev E e σ w) (fun σ w => evS E s σ w) E.q σ w := rfl
end
section
variable {w : W} {x y : D} {i j : Int} {xs ys : List D}
@[simp] theorem rd_d : rd w (.d x) = some x := rfl
@[simp] theorem rdC_l : rdC (some (.lst xs)) = some (.list xs) := rfl
@[simp] theorem rd_ref {n : Nat} : rd w (.ref n) = rdC w[n]? := rfl
@[simp] theorem rdAll_nil : rdAll w [] = some [] := rfl
@[simp] theorem rdAll_cons {v : IV} {r : List IV} : rdAll w (v :: r) = (rd w v).bind fun x => (rdAll w r).map (x :: ·) := rfl
@[simp] theorem purs_nil : purs [] = some [] := rfl
@[simp] theorem purs_cons {r : List IV} : purs (.d x :: r) = (purs r).map (x :: ·) := rfl
@[simp] theorem slot_cons0 {v : Option IV} {σ : Sl} : slot (v :: σ) 0 = v := rfl
@[simp] theorem slot_cons {v : Option IV} {σ : Sl} {i : Nat} : slot (v :: σ) (i + 1) = slot σ i := rfl
@[simp] theorem add_ii : binD .Add (.int i) (.int j) = some (.int (i + j)) := rfl
@[simp] theorem sub_ii : binD .Sub (.int i) (.int j) = some (.int (i - j)) := rfl
@[simp] theorem mul_ii : binD .Mult (.int i) (.int j) = if okI i && okI j then some (.int (i * j)) else none := rfl
@[simp] theorem div_ii : binD .FloorDiv (.int i) (.int j) = if okDiv i j then some (.int (i.fdiv j)) else none := rfl
@[simp] theorem mod_ii : binD .Mod (.int i) (.int j) = if j != 0 then some (.int (i.fmod j)) else none := rfl
@[simp] theorem pow_ii : binD .Pow (.int i) (.int j) = if decide (0 ≤ j) && decide (j ≤ 1000000) && decide (i.natAbs < 2 ^ 64) then some (.int (i ^ j.toNat)) else none := rfl
@[simp] theorem add_tt : binD .Add (.tuple xs) (.tuple ys) = if okL (xs.length + ys.length) then some (.tuple (xs ++ ys)) else none := rfl
@[simp] theorem add_ll : binD .Add (.list xs) (.list ys) = if okL (xs.length + ys.length) then some (.list (xs ++ ys)) else none := rfl
@[simp] theorem mul_ti : binD .Mult (.tuple xs) (.int i) = if decide (xs.length ≤ 1000) && decide (i ≤ 1000) && decide (-1000 ≤ i) then some (.tuple (List.replicate i.toNat xs).flatten) else none := rfl
@[simp] theorem mul_li : binD .Mult (.list xs) (.int i) = if decide (xs.length ≤ 1000) && decide (i ≤ 1000) && decide (-1000 ≤ i) then some (.list (List.replicate i.toNat xs).flatten) else none := rfl
@[simp] theorem cmpV_dd {o : CmpOp} : cmpV o w (.d x) (.d y) = cmpD o x y := rfl
theorem cmpV_ref {o : CmpOp} {n : Nat} (h : w[n]? = some (.lst xs)) : cmpV o w (.ref n) (.d y) = cmpD o (.list xs) y := by
  unfold cmpV
  simp only [rd_ref, rd_d, h, rdC_l]
@[simp] theorem lt_ii : cmpD .Lt (.int i) (.int j) = some (decide (i < j)) := rfl
@[simp] theorem le_ii : cmpD .LtE (.int i) (.int j) = some (decide (i ≤ j)) := rfl
@[simp] theorem gt_ii : cmpD .Gt (.int i) (.int j) = some (decide (j < i)) := rfl
@[simp] theorem ge_ii : cmpD .GtE (.int i) (.int j) = some (decide (j ≤ i)) := rfl
@[simp] theorem is_n : cmpD .Is x .none = some (isNone x) := rfl
@[simp] theorem isNot_n : cmpD .IsNot x .none = some (!isNone x) := rfl
theorem okD_int : okD (.int i) = true := rfl
@[simp] theorem eq_ii : cmpD .Eq (.int i) (.int j) = some (decide (i = j)) := by
  show (if okD (.int i) && okD (.int j) then _ else none) = _
  rw [okD_int, okD_int]
  show some (PyData.eqv (.int i) (.int j)) = _
  simp only [PyData.eqv]
  rfl
@[simp] theorem ne_ii : cmpD .NotEq (.int i) (.int j) = some (!decide (i = j)) := by
  show (if okD (.int i) && okD (.int j) then _ else none) = _
  rw [okD_int, okD_int]
  show some (!PyData.eqv (.int i) (.int j)) = _
  simp only [PyData.eqv]
  rfl
@[simp] theorem isiV_d {ts : List T} : isiV w ts (.d x) = some (ts.any (tyB x)) := rfl
@[simp] theorem newW_l : newW w (.d (.list xs)) = .ok (.ref w.length) (w ++ [.lst xs]) := rfl
@[simp] theorem toIt_t : toIt w (.d (.tuple xs)) = some (.dat xs) := rfl
@[simp] theorem toIt_l : toIt w (.d (.list xs)) = some (.dat xs) := rfl
@[simp] theorem items_t : itemsD (.tuple xs) = some xs := rfl
@[simp] theorem items_l : itemsD (.list xs) = some xs := rfl
@[simp] theorem asg_nm {σ : Sl} {i : Nat} : asgT (.nm i) x σ = some (σ.set i (some (.d x))) := rfl
@[simp] theorem asg_tup {σ : Sl} {ts : Tg} : asgT (.tup ts) (.tuple xs) σ = asgTs ts xs σ := rfl
@[simp] theorem asgs_nil {σ : Sl} : asgTs .nil [] σ = some σ := rfl
@[simp] theorem asgs_cons {σ : Sl} {t r : Tg} : asgTs (.cons t r) (x :: xs) σ = (asgT t x σ).bind fun σ1 => asgTs r xs σ1 := rfl
@[simp] theorem setAll_nil {σ : Sl} : setAll [] [] σ = some σ := rfl
@[simp] theorem setAll_cons {σ : Sl} {i : Nat} {is : List Nat} {v : IV} {vs : List IV} : setAll (i :: is) (v :: vs) σ = setAll is vs (σ.set i (some v)) := rfl
@[simp] theorem okI_small {i : Int} (h : i.natAbs < 2 ^ 64) : okI i = true := by
  unfold okI
  have : i.natAbs.log2 < 64 := by
    by_cases h0 : i.natAbs = 0
    · rw [h0]; decide
    · exact (Nat.log2_lt h0).mpr h
  exact decide_eq_true (by omega)
end
end Pv
namespace Pv
open PySem
def Nx (M : Sl → W → Prop) : Fl → W → Prop
  | .next σ, w => M σ w
  | _, _ => False
section
variable {K : Fl → W → Prop} {M k : Sl → W → Prop} {σ : Sl} {w : W}
@[simp] theorem Nx_next : Nx M (.next σ) w = M σ w := rfl
@[simp] theorem Nx_ret {v : IV} : Nx M (.ret v) w = False := rfl
theorem RetS.nx {r : RS} (h : RetS (Nx M) r) (q : ∀ σ w, M σ w → k σ w) : RetS (sq k K) r := by
  refine h.mono fun f w h => ?_
  cases f with
  | next σ => exact q σ w h
  | _ => exact h.elim
theorem Ret.eq {α : Type} {r : R α} {a : α} {w : W} {X : Nat → D → W → Prop} (h : Ret (fun b w' => b = a ∧ w' = w) X r) (hx : ∀ c x w, ¬ X c x w) : r = .ok a w := by
  cases r with
  | ok b w' => obtain ⟨rfl, rfl⟩ := h; rfl
  | exc c x w' => exact (hx _ _ _ h).elim
  | no => exact h.elim
end
section
variable {a b c : D} {r : List D} {x : D}
theorem ixN_nat {n j : Nat} (h : j < n) : ixN n (j : Int) = some j := by
  unfold ixN
  rw [if_pos (by omega), if_pos (by omega)]
  simp
@[simp] theorem sub_0 : subD (.list (a :: r)) (.int 0) = some a := by
  show (ixN (a :: r).length ((0 : Nat) : Int)).bind _ = _
  rw [ixN_nat (by simp)]; rfl
@[simp] theorem sub_1 : subD (.list (a :: b :: r)) (.int 1) = some b := by
  show (ixN (a :: b :: r).length ((1 : Nat) : Int)).bind _ = _
  rw [ixN_nat (by simp)]; rfl
@[simp] theorem sub_2 : subD (.list (a :: b :: c :: r)) (.int 2) = some c := by
  show (ixN (a :: b :: c :: r).length ((2 : Nat) : Int)).bind _ = _
  rw [ixN_nat (by simp)]; rfl
@[simp] theorem tub_0 : subD (.tuple (a :: r)) (.int 0) = some a := by
  show (ixN (a :: r).length ((0 : Nat) : Int)).bind _ = _
  rw [ixN_nat (by simp)]; rfl
@[simp] theorem tub_1 : subD (.tuple (a :: b :: r)) (.int 1) = some b := by
  show (ixN (a :: b :: r).length ((1 : Nat) : Int)).bind _ = _
  rw [ixN_nat (by simp)]; rfl
@[simp] theorem st_0 : stL (a :: r) (.int 0) x = some (x :: r) := by
  show (ixN (a :: r).length ((0 : Nat) : Int)).map _ = _
  rw [ixN_nat (by simp)]; rfl
@[simp] theorem st_1 : stL (a :: b :: r) (.int 1) x = some (a :: x :: r) := by
  show (ixN (a :: b :: r).length ((1 : Nat) : Int)).map _ = _
  rw [ixN_nat (by simp)]; rfl
@[simp] theorem st_2 : stL (a :: b :: c :: r) (.int 2) x = some (a :: b :: x :: r) := by
  show (ixN (a :: b :: c :: r).length ((2 : Nat) : Int)).map _ = _
  rw [ixN_nat (by simp)]; rfl
theorem sub_nat {xs : List D} {j : Nat} {v : D} (h : xs[j]? = some v) : subD (.list xs) (.int (j : Int)) = some v := by
  show (ixN xs.length (j : Int)).bind _ = _
  rw [ixN_nat (List.getElem?_eq_some_iff.mp h).1]
  exact h
theorem tub_nat {xs : List D} {j : Nat} {v : D} (h : xs[j]? = some v) : subD (.tuple xs) (.int (j : Int)) = some v := by
  show (ixN xs.length (j : Int)).bind _ = _
  rw [ixN_nat (List.getElem?_eq_some_iff.mp h).1]
  exact h
theorem len_l {w : W} {xs : List D} : bltD .len [.list xs] = some (.int xs.length) := rfl
theorem okDiv_small {i j : Int} (h0 : 0 < j) (h : j.natAbs.log2 < 9000) : okDiv i j = true := by
  unfold okDiv
  simp only [Bool.and_eq_true, Bool.or_eq_true, decide_eq_true_eq]
  exact ⟨by simp; omega, .inl h⟩
end
structure PotOk (xs : List D) : Prop where
  ex : ∃ (p0 p1 p2 : Int) (cs : List Int), xs = .int p0 :: .int p1 :: .int p2 :: cs.map .int ∧ 0 ≤ p0 ∧ 0 ≤ p1 ∧ p1 < 2147483648 ∧ 3 ≤ p2 ∧ p2 ≤ cs.length + 3 ∧ cs.length ≤ 63
def bTake1 : St := (.ifs (.and (.cmp .Eq (.sub (.var 0) (.cst (.int (0)))) (.cst (.int (0)))) (.cmp .Lt (.sub (.var 0) (.cst (.int (2)))) (.blt .len (.cons (.var 0) .nil)))) (.cons (.asg (.nm 2) (.sub (.var 0) (.sub (.var 0) (.cst (.int (2)))))) (.cons (.auix .Add (.var 0) (.cst (.int (2))) (.cst (.int (1)))) (.cons (.ifs (.cmp .GtE (.var 2) (.bin .Pow (.cst (.int (10))) (.cst (.int (18))))) (.cons (.stix (.var 0) (.cst (.int (0))) (.bin .Sub (.var 2) (.bin .Pow (.cst (.int (10))) (.cst (.int (18)))))) .nil) (.cons (.asg (.nm 4) (.bin .Mod (.blt .int (.cons (.var 2) .nil)) (.cst (.int (2147483647))))) (.cons (.asg (.nm 4) (.bin .Mod (.blt .int (.cons (.bin .Add (.bin .Add (.bin .Mult (.var 4) (.var 4)) (.bin .Mult (.cst (.int (69621))) (.var 4))) (.bin .Mult (.cst (.int (977))) (.sub (.var 0) (.cst (.int (2)))))) .nil)) (.cst (.int (2147483629))))) (.cons (.stix (.var 0) (.cst (.int (1))) (.bin .Mod (.blt .int (.cons (.bin .Add (.sub (.var 0) (.cst (.int (1)))) (.var 4)) .nil)) (.cst (.int (2147483629))))) .nil)))) .nil))) .nil)
def bTake2 : St := (.cons (.ifs (.cmp .Gt (.sub (.var 0) (.cst (.int (0)))) (.cst (.int (0)))) (.cons (.asg (.nm 3) (.bin .Mod (.blt .int (.cons (.sub (.var 0) (.cst (.int (0)))) .nil)) (.var 1))) (.cons (.stix (.var 0) (.cst (.int (0))) (.bin .FloorDiv (.sub (.var 0) (.cst (.int (0)))) (.var 1))) (.cons (.ret (.var 3)) .nil))) .nil) (.cons (.stix (.var 0) (.cst (.int (1))) (.bin .Mod (.blt .int (.cons (.bin .Add (.bin .Add (.bin .Mult (.sub (.var 0) (.cst (.int (1)))) (.cst (.int (48271)))) (.bin .Mult (.cst (.int (40692))) (.sub (.var 0) (.cst (.int (2)))))) (.cst (.int (11)))) .nil)) (.cst (.int (2147483647))))) (.cons (.stix (.var 0) (.cst (.int (1))) (.bin .Mod (.blt .int (.cons (.bin .Add (.bin .Mult (.sub (.var 0) (.cst (.int (1)))) (.sub (.var 0) (.cst (.int (1))))) (.cst (.int (7)))) .nil)) (.cst (.int (2147483629))))) (.cons (.ret (.bin .Mod (.blt .int (.cons (.bin .FloorDiv (.sub (.var 0) (.cst (.int (1)))) (.cst (.int (8)))) .nil)) (.var 1))) .nil))))
def bTake : St := .cons bTake1 bTake2
section
variable {E : En} {w : W} {n : Nat} {many : Int} {pot : List D} {X : Nat → D → W → Prop}
@[simp] theorem int_i {i : Int} : bltD .int [.int i] = some (.int i) := rfl
@[simp] theorem abs_i {i : Int} : bltD .abs [.int i] = some (.int (if i < 0 then -i else i)) := rfl
@[simp] theorem len_ll {xs : List D} : bltD .len [.list xs] = some (.int xs.length) := rfl
@[simp] theorem len_tt {xs : List D} : bltD .len [.tuple xs] = some (.int xs.length) := rfl
def St5 (n : Nat) (many : Int) (σ : Sl) : Prop := ∃ a b c, σ = [some (.ref n), some (.d (.int many)), a, b, c]
theorem take1 (hw : w[n]? = some (.lst pot)) (hp : PotOk pot) {a b c : Option IV} :
    RetS (Nx fun σ w' => ∃ pot', PotOk pot' ∧ w' = w.set n (.lst pot') ∧ St5 n many σ) (evS E bTake1 [some (.ref n), some (.d (.int many)), a, b, c] w) := by
  obtain ⟨p0, p1, p2, cs, rfl, h0, h1, h2, h3, h4, h5⟩ := hp.ex
  have hn : n < w.length := (List.getElem?_eq_some_iff.mp hw).1
  have hid : w.set n (.lst (.int p0 :: .int p1 :: .int p2 :: cs.map .int)) = w := by
    rw [List.getElem?_eq_some_iff] at hw
    obtain ⟨h, e⟩ := hw
    rw [← e, List.set_getElem_self]
  have back : ∀ q0 q1 q2 : Int, (w.set n (.lst (.int q0 :: .int q1 :: .int q2 :: cs.map .int)))[n]? = some (.lst (.int q0 :: .int q1 :: .int q2 :: cs.map .int)) := fun q0 q1 q2 => List.getElem?_set_self hn
  unfold bTake1
  simp [hw]
  split
  · rename_i e0
    split
    · rename_i hlt
      obtain ⟨j, rfl⟩ : ∃ j : Nat, p2 = (j : Int) + 3 := ⟨(p2 - 3).toNat, by omega⟩
      have hj : j < cs.length := by omega
      have hz : subD (.list (.int p0 :: .int p1 :: .int ((j : Int) + 3) :: cs.map .int)) (.int ((j : Int) + 3)) = some (.int cs[j]) := by
        have : ((j : Int) + 3) = ((j + 3 : Nat) : Int) := by omega
        rw [this]
        refine sub_nat ?_
        show (cs.map PyData.int)[j]? = _
        rw [List.getElem?_map, List.getElem?_eq_getElem hj]
        rfl
      simp only [hz, OptP_some, ge_ii, sub_ii, back, CelP_l, st_0, rdC_l, sub_2, sub_1, int_i]
      split
      · rename_i hc
        exact ⟨_, ⟨_, _, _, cs, rfl, by simpa using hc, h1, h2, by omega, by omega, h5⟩, rfl, _, _, _, rfl⟩
      · have o1 : ∀ i : Int, 0 ≤ i → i < 4294967296 → okI i = true := fun i a b => okI_small (by omega)
        have e1 : cs[j].fmod 2147483647 = cs[j] % 2147483647 := Int.fmod_eq_emod_of_nonneg _ (by decide)
        have m1 : 0 ≤ cs[j] % 2147483647 ∧ cs[j] % 2147483647 < 2147483647 := by omega
        simp only [mod_ii, e1]
        generalize cs[j] % 2147483647 = m at m1
        have fm : ∀ i : Int, i.fmod 2147483629 = i % 2147483629 := fun i => Int.fmod_eq_emod_of_nonneg _ (by decide)
        simp [o1 m m1.1 (by omega), o1 69621 (by decide) (by decide), o1 977 (by decide) (by decide), o1 ((j : Int) + 3 + 1) (by omega) (by omega), fm, List.set_set]
        refine ⟨_, ⟨_, _, _, cs, rfl, h0, ?_, ?_, by omega, by omega, h5⟩, rfl, _, _, _, rfl⟩
        · omega
        · omega
    · exact ⟨_, hp, hid.symm, _, _, _, rfl⟩
  · exact ⟨_, hp, hid.symm, _, _, _, rfl⟩
theorem take2 (hw : w[n]? = some (.lst pot)) (hp : PotOk pot) (hm : 0 < many) (hm2 : many.natAbs.log2 < 9000) {a b c : Option IV} {N : Nat} (hN : w.length = N) :
    RetS (finK N (fun v w' => ∃ r pot', v = .d (.int r) ∧ 0 ≤ r ∧ r < many ∧ PotOk pot' ∧ w' = w.set n (.lst pot')) X) (evS E bTake2 [some (.ref n), some (.d (.int many)), a, b, c] w) := by
  obtain ⟨p0, p1, p2, cs, rfl, h0, h1, h2, h3, h4, h5⟩ := hp.ex
  have hn : n < w.length := (List.getElem?_eq_some_iff.mp hw).1
  have back : ∀ q0 q1 q2 : Int, (w.set n (.lst (.int q0 :: .int q1 :: .int q2 :: cs.map .int)))[n]? = some (.lst (.int q0 :: .int q1 :: .int q2 :: cs.map .int)) := fun q0 q1 q2 => List.getElem?_set_self hn
  have tk : ∀ c, (w.set n c).take N = w.set n c := fun c => List.take_of_length_le (by rw [List.length_set]; omega)
  have o1 : ∀ i : Int, 0 ≤ i → i < 4294967296 → okI i = true := fun i a b => okI_small (by omega)
  have md : ∀ i : Int, 0 ≤ i.fmod many ∧ i.fmod many < many := fun i => by
    rw [Int.fmod_eq_emod_of_nonneg _ (by omega)]
    exact ⟨Int.emod_nonneg _ (by omega), Int.emod_lt_of_pos _ hm⟩
  have hne : ¬ many = 0 := by omega
  unfold bTake2
  simp [hw, hne, okDiv_small hm hm2, back, tk]
  split
  · rename_i hc
    refine ⟨(md _).1, (md _).2, _, ⟨_, _, _, cs, rfl, ?_, h1, h2, h3, h4, h5⟩, rfl⟩
    rw [Int.fdiv_eq_ediv_of_nonneg _ (by omega)]
    exact Int.ediv_nonneg h0 (by omega)
  · have fm : ∀ i : Int, i.fmod 2147483629 = i % 2147483629 := fun i => Int.fmod_eq_emod_of_nonneg _ (by decide)
    have fm2 : ∀ i : Int, i.fmod 2147483647 = i % 2147483647 := fun i => Int.fmod_eq_emod_of_nonneg _ (by decide)
    have m1 : ∀ i : Int, 0 ≤ i % 2147483647 ∧ i % 2147483647 < 2147483647 := fun i => by omega
    have m2 : ∀ i : Int, 0 ≤ i % 2147483629 ∧ i % 2147483629 < 2147483629 := fun i => by omega
    simp [o1 p1 h1 (by omega), o1 48271 (by decide) (by decide), o1 40692 (by decide) (by decide), o1 p2 (by omega) (by omega), fm, fm2, back, o1 _ (m1 _).1 (Int.lt_trans (m1 _).2 (by decide)), okDiv_small (j := 8) (by decide) (by decide), hne, List.set_set, tk]
    exact ⟨(md _).1, (md _).2, _, ⟨_, _, _, cs, rfl, h0, (m2 _).1, Int.lt_trans (m2 _).2 (by decide), h3, h4, h5⟩, rfl⟩
theorem take_ok (hw : w[n]? = some (.lst pot)) (hp : PotOk pot) (hm : 0 < many) (hm2 : many.natAbs.log2 < 9000) :
    Ret (fun v w' => ∃ r pot', v = .d (.int r) ∧ 0 ≤ r ∧ r < many ∧ PotOk pot' ∧ w' = w.set n (.lst pot')) X (fin w.length (evS E bTake [some (.ref n), some (.d (.int many)), none, none, none] w)) := by
  have hn : n < w.length := (List.getElem?_eq_some_iff.mp hw).1
  rw [Ret_fin]
  unfold bTake
  rw [RetS_cons]
  refine RetS.nx (take1 hw hp) fun σ w' ⟨pot', hp', e, a, b, c, es⟩ => ?_
  subst e es
  refine RetS.mono (take2 (X := X) (E := E) (List.getElem?_set_self hn) hp' hm hm2 (N := w.length) (by rw [List.length_set])) fun f w' h => ?_
  cases f with
  | ret v =>
    cases v with
    | d x =>
      obtain ⟨r, pot'', h1, h2, h3, h4, h5⟩ := h
      exact ⟨r, pot'', h1, h2, h3, h4, by rw [h5, List.set_set]⟩
    | ref k =>
      rw [finK_ref] at h
      split at h <;> (obtain ⟨r, pot'', h1, _⟩ := h; cases h1)
    | exc _ _ => obtain ⟨r, pot'', h1, _⟩ := h; cases h1
  | next _ => obtain ⟨r, pot'', h1, _⟩ := h; cases h1
  | brk _ => exact h
  | cnt _ => exact h
  | exc _ _ _ => exact h
end
end Pv
namespace Pv
open PySem
theorem take_len {w : W} : w.take w.length = w := List.take_length
def bSame (i : Nat) : St := (.cons (.ifs (.cmp .Is (.var 1) (.cst (.none))) (.cons (.ret (.cmp .Is (.var 0) (.cst (.none)))) .nil) .nil) (.cons (.ifs (.isi (.var 1) [.bool, .str]) (.cons (.ret (.and (.cmp .Eq (.isi (.var 0) [.bool]) (.isi (.var 1) [.bool])) (.and (.isi (.var 0) [.bool, .str]) (.cmp .Eq (.var 0) (.var 1))))) .nil) .nil) (.cons (.ifs (.isi (.var 1) [.int]) (.cons (.ret (.and (.isi (.var 0) [.int]) (.and (.not (.isi (.var 0) [.bool])) (.cmp .Eq (.var 0) (.var 1))))) .nil) .nil) (.cons (.ifs (.or (.cmp .NotEq (.isi (.var 1) [.list]) (.isi (.var 0) [.list])) (.cmp .NotEq (.isi (.var 1) [.tuple]) (.isi (.var 0) [.tuple]))) (.cons (.ret (.cst (.bool false))) .nil) .nil) (.cons (.ret (.and (.cmp .Eq (.blt .len (.cons (.var 0) .nil)) (.blt .len (.cons (.var 1) .nil))) (.blt .all (.cons (.comp [2] (.call i (.cons (.sub (.var 0) (.var 2)) (.cons (.sub (.var 1) (.var 2)) .nil))) (.nm 2) (.rng (.cons (.blt .len (.cons (.var 1) .nil)) .nil)) .nil) .nil)))) .nil)))))
inductive SameD : Nat → D → Prop
  | non {n : Nat} : SameD n .none
  | bl {n : Nat} (b : Bool) : SameD n (.bool b)
  | int {n : Nat} (i : Int) : SameD n (.int i)
  | str {n : Nat} (x : Str) : SameD n (.str x)
  | lst {n : Nat} {xs : List D} : xs.length ≤ 1000000 → (∀ y ∈ xs, SameD n y) → SameD (n + 1) (.list xs)
  | tup {n : Nat} {xs : List D} : xs.length ≤ 1000000 → (∀ y ∈ xs, SameD n y) → SameD (n + 1) (.tuple xs)
theorem bools_rep : ∀ n : Nat, bools? (List.replicate n (PyData.bool true)) = some (List.replicate n true)
  | 0 => rfl
  | n + 1 => by
    show (bools? (List.replicate n (PyData.bool true))).map (true :: ·) = _
    rw [bools_rep n]; rfl
@[simp] theorem eq_bb {a b : Bool} : cmpD .Eq (.bool a) (.bool b) = some (a == b) := by
  show (if okD (.bool a) && okD (.bool b) then _ else none) = _
  rfl
@[simp] theorem ne_bb {a b : Bool} : cmpD .NotEq (.bool a) (.bool b) = some (!(a == b)) := by
  show (if okD (.bool a) && okD (.bool b) then _ else none) = _
  rfl
theorem eq_str {x : Str} : cmpD .Eq (.str x) (.str x) = some true := by
  show (if okD (.str x) && okD (.str x) then some (PyData.eqv (.str x) (.str x)) else none) = _
  have h : okD (.str x) = true := rfl
  rw [h]
  simp [PyData.eqv]
theorem rng_nat {n : Nat} (h : n ≤ 16777216) : rngD [.int (n : Int)] = some ((List.range n).map fun (k : Nat) => .int k) := by
  show (if decide (-4611686018427387904 ≤ (n : Int)) && decide ((n : Int) ≤ 16777216) then _ else none) = _
  rw [decide_eq_true (by omega), decide_eq_true (by omega)]
  simp
section
variable {E : En} {w : W} {X : Nat → D → W → Prop} {i : Nat}
theorem same_list {x : D} {xs : List D} (hx : x = .list xs ∨ x = .tuple xs) (hl : xs.length ≤ 1000000) (ih : ∀ y ∈ xs, ∀ w, E.Φ i [.d y, .d y] w = .ok (.d (.bool true)) w) :
    Ret (fun b w' => b = .d (.bool true) ∧ w' = w) X (fin w.length (evS E (bSame i) [some (.d x), some (.d x), none] w)) := by
  have hsub : ∀ k : Nat, k < xs.length → ∃ y ∈ xs, subD x (.int (k : Int)) = some y := fun k hk => by
    refine ⟨xs[k], List.getElem_mem hk, ?_⟩
    rcases hx with rfl | rfl
    · exact sub_nat (List.getElem?_eq_getElem hk)
    · exact tub_nat (List.getElem?_eq_getElem hk)
  have comp : compL (elF (isNil .nil) (.nm 2) (ev E .nil) (ev E (.call i (.cons (.sub (.var 0) (.var 2)) (.cons (.sub (.var 1) (.var 2)) .nil)))) (wip [some (.d x), some (.d x), none] [2])) ((List.range xs.length).map fun (k : Nat) => .int k) w = .ok (((List.range xs.length).map fun (k : Nat) => PyData.int k).map fun _ => PyData.bool true) w := by
    refine compL_map fun z hz => ?_
    obtain ⟨k, hk, rfl⟩ := List.mem_map.mp hz
    obtain ⟨y, hy, e⟩ := hsub k (List.mem_range.mp hk)
    refine Ret.eq (X := fun _ _ _ => False) ?_ (fun _ _ _ h => h)
    show Ret _ _ (elF true _ _ _ _ _ _)
    rw [Ret_elT]
    simp [wip, e, ih y hy]
  have len : bltD .len [x] = some (.int xs.length) := by rcases hx with rfl | rfl <;> rfl
  have bl : bltD .all [.list (((List.range xs.length).map fun (k : Nat) => PyData.int k).map fun _ => PyData.bool true)] = some (.bool true) := by
    rw [List.map_map, show (List.map ((fun _ => PyData.bool true) ∘ fun (k : Nat) => PyData.int k) (List.range xs.length)) = List.replicate xs.length (PyData.bool true) by
      rw [List.eq_replicate_iff]; exact ⟨by simp, fun b hb => by obtain ⟨_, _, e⟩ := List.mem_map.mp hb; exact e.symm⟩]
    show (bools? (List.replicate xs.length (PyData.bool true))).map (fun bs => PyData.bool (bs.all id)) = _
    rw [bools_rep]
    show some (PyData.bool _) = _
    congr 2
    rw [List.all_eq_true]
    intro b hb
    exact (List.mem_replicate.mp hb).2
  rw [List.map_map] at bl
  have k0 : isNone x = false ∧ tyB x .bool = false ∧ tyB x .str = false ∧ tyB x .int = false := by rcases hx with rfl | rfl <;> exact ⟨rfl, rfl, rfl, rfl⟩
  obtain ⟨t0, t1, t2, t3⟩ := k0
  unfold bSame
  simp [len, t0, t1, t2, t3, rng_nat (n := xs.length) (by omega), comp, bl, okL]
  omega
theorem same_ok {n : Nat} {x : D} (hx : SameD n x) (ih : ∀ m y, n = m + 1 → SameD m y → ∀ w, E.Φ i [.d y, .d y] w = .ok (.d (.bool true)) w) :
    fin w.length (evS E (bSame i) [some (.d x), some (.d x), none] w) = .ok (.d (.bool true)) w := by
  refine Ret.eq (X := fun _ _ _ => False) ?_ (fun _ _ _ h => h)
  cases hx with
  | non => unfold bSame; simp [isNone]
  | bl b => unfold bSame; simp [isNone, tyB]
  | int j => unfold bSame; simp [isNone, tyB]
  | str z => unfold bSame; simp [isNone, tyB, eq_str]
  | lst hl h => exact same_list (.inl rfl) hl fun y hy => ih _ y rfl (h y hy)
  | tup hl h => exact same_list (.inr rfl) hl fun y hy => ih _ y rfl (h y hy)
def bLowN (N : Int) : St := (.cons (.par [4, 5] (.cons (.blt .abs (.cons (.var 0) .nil)) (.cons (.blt .abs (.cons (.var 1) .nil)) .nil))) (.cons (.for_ (.nm 2) (.rng (.cons (.cst (.int N)) .nil)) (.cons (.ifs (.cmp .Eq (.var 5) (.cst (.int (0)))) (.cons .brk .nil) .nil) (.cons (.par [4, 5] (.cons (.var 5) (.cons (.bin .Mod (.blt .int (.cons (.var 4) .nil)) (.var 5)) .nil))) .nil))) (.cons (.asg (.nm 3) (.ite (.cmp .Gt (.var 1) (.cst (.int (0)))) (.cst (.int (1))) (.neg (.cst (.int (1)))))) (.cons (.ret (.tup (.cons (.bin .FloorDiv (.bin .Mult (.var 3) (.var 0)) (.var 4)) (.cons (.bin .FloorDiv (.bin .Mult (.var 3) (.var 1)) (.var 4)) .nil)))) .nil))))
def bLow : St := bLowN 100000
def Eu (a0 b0 : Nat) (k : Nat) (a b : Nat) : Prop := Nat.gcd a b = Nat.gcd a0 b0 ∧ (0 < a ∨ 0 < b) ∧ match k with
  | 0 => a = a0 ∧ b = b0
  | k + 1 => b < a ∧ a * b * 2 ^ k ≤ a0 * b0
theorem Eu.step {a0 b0 k a b : Nat} (h : Eu a0 b0 k a b) (hb : 0 < b) : Eu a0 b0 (k + 1) b (a % b) := by
  obtain ⟨h1, h2, h3⟩ := h
  have lt := Nat.mod_lt a hb
  refine ⟨?_, .inl hb, lt, ?_⟩
  · rw [← h1, Nat.gcd_comm b, ← Nat.gcd_rec, Nat.gcd_comm]
  · cases k with
    | zero =>
      obtain ⟨rfl, rfl⟩ := h3
      rw [Nat.pow_zero, Nat.mul_one, Nat.mul_comm]
      exact Nat.mul_le_mul_right _ (Nat.mod_le _ _)
    | succ k =>
      obtain ⟨h4, h5⟩ := h3
      refine Nat.le_trans ?_ h5
      have two : 2 * (a % b) ≤ a := by
        have e := Nat.div_add_mod a b
        have q : 1 ≤ a / b := (Nat.one_le_div_iff hb).mpr (Nat.le_of_lt h4)
        have : b ≤ b * (a / b) := Nat.le_mul_of_pos_right b q
        omega
      calc b * (a % b) * 2 ^ (k + 1) = b * (2 * (a % b)) * 2 ^ k := by rw [Nat.pow_succ]; ac_rfl
        _ ≤ b * a * 2 ^ k := Nat.mul_le_mul_right _ (Nat.mul_le_mul_left _ two)
        _ = a * b * 2 ^ k := by rw [Nat.mul_comm b a]
theorem Eu.done' {a0 b0 a b N : Nat} (h2 : 0 < a ∨ 0 < b) (h3 : b < a) (h4 : a * b * N ≤ a0 * b0) (hP : a0 * b0 < N) : b = 0 := by
  rcases Nat.eq_zero_or_pos b with h | h
  · exact h
  · have : 1 ≤ a * b := Nat.mul_pos (by omega) h
    exact absurd (Nat.le_trans (Nat.le_mul_of_pos_left N this) h4) (Nat.not_le.mpr hP)
theorem Eu.done {a0 b0 a b : Nat} (h : Eu a0 b0 (99999 + 1) a b) (hP : a0 * b0 < 2 ^ 99999) : b = 0 := Eu.done' h.2.1 h.2.2.1 h.2.2.2 hP
def lowT (t b : Int) : Int := ((if 0 < b then 1 else -1) * t).fdiv (Int.gcd t b)
def lowB (t b : Int) : Int := ((if 0 < b then 1 else -1) * b).fdiv (Int.gcd t b)
theorem low_gen {N : Nat} (hN : N = 100000) {t b : Int} (hb : b ≠ 0) (h1 : t.natAbs.log2 < 49000) (h2 : b.natAbs.log2 < 9000) :
    fin w.length (evS E (bLowN (N : Int)) [some (.d (.int t)), some (.d (.int b)), none, none, none, none] w) = .ok (.d (.tuple [.int (lowT t b), .int (lowB t b)])) w := by
  refine Ret.eq (X := fun _ _ _ => False) ?_ (fun _ _ _ h => h)
  have hP : t.natAbs * b.natAbs < 2 ^ 99999 := by
    have q1 : t.natAbs < 2 ^ 49000 := Nat.lt_of_lt_of_le Nat.lt_log2_self (Nat.pow_le_pow_right (by decide) h1)
    have q2 : b.natAbs < 2 ^ 9000 := Nat.lt_of_lt_of_le Nat.lt_log2_self (Nat.pow_le_pow_right (by decide) h2)
    calc t.natAbs * b.natAbs < 2 ^ 49000 * 2 ^ 9000 := Nat.mul_lt_mul'' q1 q2
      _ = 2 ^ 58000 := by rw [← Nat.pow_add]
      _ ≤ 2 ^ 99999 := Nat.pow_le_pow_right (by decide) (by decide)
  rw [Ret_fin]
  unfold bLowN
  rw [RetS_cons]
  have ab : ∀ i : Int, (if i < 0 then -i else i) = (i.natAbs : Int) := fun i => by split <;> omega
  have g0 : 0 < Nat.gcd t.natAbs b.natAbs := Nat.gcd_pos_of_pos_right _ (by omega)
  simp only [evS_par, RetS_onE, evA_cons, evA_nil, Ret_bind, Ret_blt, ev_var, Ret_ofO, slot_cons, slot_cons0, OptP_some, Ret_ok, rdAll_cons, rdAll_nil, rd_d, Option.bind_some, Option.map_some, abs_i, RetS_ofS, setAll_cons, setAll_nil, sq_next, ab]
  rw [RetS_cons]
  obtain ⟨M, hM⟩ : ∃ M : Sl → W → Prop, M = fun σ w' => ∃ x : Option IV, σ = [some (.d (.int t)), some (.d (.int b)), x, none, some (.d (.int (Nat.gcd t.natAbs b.natAbs : Nat))), some (.d (.int 0))] ∧ w' = w := ⟨_, rfl⟩
  refine RetS.nx (M := M) ?_ ?_
  · rw [hM, RetS_for, Ret_rng]
    simp only [evA_cons, evA_nil, ev_cst, Ret_bind, Ret_ok, purs_cons, purs_nil, Option.map_some, OptP_some]
    have hr : rngD [.int (N : Int)] = some ((List.range N).map fun (k : Nat) => .int k) := rng_nat (by omega)
    rw [hr, OptP_some, forP_dat]
    refine ⟨by rw [List.length_map, List.length_range, hN]; decide, ?_⟩
    refine forL_inv (fun k σ w' => w' = w ∧ ∃ (x : Option IV) (one other : Nat), σ = [some (.d (.int t)), some (.d (.int b)), x, none, some (.d (.int one)), some (.d (.int other))] ∧ Eu t.natAbs b.natAbs k one other) ⟨rfl, none, _, _, rfl, rfl, .inr (by omega), rfl, rfl⟩ ?_ ?_
    · rintro k z σ w' hz ⟨rfl, x, one, other, rfl, he⟩
      rw [RetS_body, asg_nm, OptP_some]
      simp
      by_cases h0 : other = 0
      · subst h0
        simp
        rw [← he.1, Nat.gcd_zero_right]
      · simp [h0]
        have e1 : (one : Int).fmod (other : Int) = ((one % other : Nat) : Int) := by
          rw [Int.fmod_eq_emod_of_nonneg _ (by omega)]; rfl
        rw [e1]
        exact ⟨_, _, _, ⟨rfl, rfl, rfl⟩, he.step (by omega)⟩
    · rintro σ w' ⟨rfl, x, one, other, rfl, he⟩
      rw [List.length_map, List.length_range, hN] at he
      have h0 := he.done hP
      subst h0
      exact ⟨x, by rw [← he.1, Nat.gcd_zero_right]; rfl, rfl⟩
  · rw [hM]
    rintro σ w' ⟨x, rfl, rfl⟩
    have gg : (Nat.gcd t.natAbs b.natAbs).log2 < 9000 := by
      have q := Nat.gcd_le_right t.natAbs (n := b.natAbs) (by omega)
      have q2 : b.natAbs < 2 ^ 9000 := Nat.lt_of_lt_of_le Nat.lt_log2_self (Nat.pow_le_pow_right (by decide) h2)
      exact (Nat.log2_lt (by omega)).mpr (Nat.lt_of_le_of_lt q q2)
    have od : ∀ i : Int, okDiv i ((Nat.gcd t.natAbs b.natAbs : Nat) : Int) = true := fun i => okDiv_small (by omega) (by simpa using gg)
    have ot : okI t = true := decide_eq_true (by omega)
    have ob : okI b = true := decide_eq_true (by omega)
    by_cases hp : 0 < b
    · simp [hp, od, ot, ob, okI_small (i := 1) (by decide), take_len, lowT, lowB, Int.gcd, okL]
    · simp [hp, od, ot, ob, okI_small (i := -1) (by decide), take_len, lowT, lowB, Int.gcd, okL]
theorem low_ok {t b : Int} (hb : b ≠ 0) (h1 : t.natAbs.log2 < 49000) (h2 : b.natAbs.log2 < 9000) :
    fin w.length (evS E bLow [some (.d (.int t)), some (.d (.int b)), none, none, none, none] w) = .ok (.d (.tuple [.int (lowT t b), .int (lowB t b)])) w := low_gen (N := 100000) rfl hb h1 h2
end
end Pv
namespace Pv
open PySem
def isI : D → Bool
  | .int _ => true
  | _ => false
def bInt : St := (.cons (.ret (.and (.isi (.var 0) [.int]) (.not (.isi (.var 0) [.bool])))) .nil)
theorem int_ok {E : En} {w : W} (x : D) : fin w.length (evS E bInt [some (.d x)] w) = .ok (.d (.bool (isI x))) w := by
  refine Ret.eq (X := fun _ _ _ => False) ?_ (fun _ _ _ h => h)
  unfold bInt
  cases x <;> simp [tyB, isI, take_len]
theorem bools_map {g : D → Bool} : ∀ xs : List D, bools? (xs.map fun y => PyData.bool (g y)) = some (xs.map g)
  | [] => rfl
  | x :: xs => by
    show (bools? (xs.map fun y => PyData.bool (g y))).map (g x :: ·) = _
    rw [bools_map xs]; rfl
@[simp] theorem all_bools {g : D → Bool} {xs : List D} : bltD .all [.list (xs.map fun y => PyData.bool (g y))] = some (.bool (xs.all g)) := by
  show (bools? (xs.map fun y => PyData.bool (g y))).map (fun bs => PyData.bool (bs.all id)) = _
  rw [bools_map]
  show some (PyData.bool ((xs.map g).all id)) = _
  rw [List.all_map]
  rfl
section
variable {E : En} {w : W} {X : Nat → D → W → Prop} {Q : IV → W → Prop} {i : Nat} {xs : List D} {g : D → Bool} {o : Option IV}
theorem all_comp (hl : xs.length ≤ 16777216) (h : ∀ y ∈ xs, E.Φ i [.d y] w = .ok (.d (.bool (g y))) w) :
    Ret Q X (ev E (.blt .all (.cons (.comp [1] (.call i (.cons (.var 1) .nil)) (.nm 1) (.seq (.var 0)) .nil) .nil)) [some (.d (.tuple xs)), o] w) = Q (.d (.bool (xs.all g))) w := by
  have comp : compL (elF (isNil .nil) (.nm 1) (ev E .nil) (ev E (.call i (.cons (.var 1) .nil))) (wip [some (.d (.tuple xs)), o] [1])) xs w = .ok (xs.map fun y => PyData.bool (g y)) w := by
    refine compL_map fun z hz => ?_
    refine Ret.eq (X := fun _ _ _ => False) ?_ (fun _ _ _ h => h)
    show Ret _ _ (elF true _ _ _ _ _ _)
    rw [Ret_elT]
    simp [wip, h z hz]
  simp [comp, okL, hl]
end
theorem plain_ints : ∀ {xs : List D}, xs.all isI = true → PyData.plainAll xs = true
  | [], _ => rfl
  | x :: xs, h => by
    rw [List.all_cons, Bool.and_eq_true] at h
    rw [PyData.plainAll, plain_ints h.2]
    cases x <;> first | rfl | cases h.1
theorem depth_ints : ∀ {xs : List D}, xs.all isI = true → PyData.depthAll xs ≤ 1
  | [], _ => by simp [PyData.depthAll]
  | x :: xs, h => by
    rw [List.all_cons, Bool.and_eq_true] at h
    have := depth_ints h.2
    cases x <;> first | (cases h.1; done) | (simp [PyData.depthAll, PyData.depth]; omega)
def isPoly : D → Bool
  | .tuple xs => xs.all isI && (match xs with
    | .int i :: _ => i != 0
    | _ => true)
  | _ => false
def bPoly (i : Nat) : St := (.cons (.ifs (.or (.not (.isi (.var 0) [.tuple])) (.not (.blt .all (.cons (.comp [1] (.call i (.cons (.var 1) .nil)) (.nm 1) (.seq (.var 0)) .nil) .nil)))) (.cons (.ret (.cst (.bool false))) .nil) .nil) (.cons (.ret (.or (.cmp .Eq (.var 0) (.tup .nil)) (.cmp .NotEq (.sub (.var 0) (.cst (.int (0)))) (.cst (.int (0)))))) .nil))
def bPolyL (i : Nat) : St := (.cons (.ifs (.or (.not (.isi (.var 0) [.tuple])) (.not (.blt .all (.cons (.comp [1] (.call i (.cons (.var 1) .nil)) (.nm 1) (.seq (.var 0)) .nil) .nil)))) (.cons (.ret (.cst (.bool false))) .nil) .nil) (.cons (.ret (.or (.cmp .Eq (.blt .len (.cons (.var 0) .nil)) (.cst (.int (0)))) (.cmp .NotEq (.sub (.var 0) (.cst (.int (0)))) (.cst (.int (0)))))) .nil))
theorem tyT (x : D) : (∃ xs, x = .tuple xs) ∨ (∀ xs, x ≠ .tuple xs) ∧ tyB x .tuple = false := by
  cases x <;> first | exact .inl ⟨_, rfl⟩ | exact .inr ⟨by nofun, rfl⟩
section
variable {E : En} {w : W} {X : Nat → D → W → Prop} {Q : IV → W → Prop} {i : Nat} {x : D} {o : Option IV}
def small (x : D) : Prop := ∀ xs, x = .tuple xs → xs.length ≤ 16777216
theorem eq_unit {xs : List D} (h : okD (.tuple xs) = true) : cmpD .Eq (.tuple xs) (.tuple []) = some xs.isEmpty := by
  show (if okD (.tuple xs) && okD (.tuple []) then some (PyData.eqv (.tuple xs) (.tuple [])) else none) = _
  rw [h]
  cases xs <;> simp [PyData.eqv, PyData.eqvAll, okD, PyData.plain, PyData.plainAll, PyData.depth, PyData.depthAll]
theorem okD_ints {xs : List D} (h : xs.all isI = true) : okD (.tuple xs) = true := by
  unfold okD
  rw [Bool.and_eq_true]
  refine ⟨by rw [PyData.plain]; exact plain_ints h, decide_eq_true ?_⟩
  have := depth_ints h
  rw [PyData.depth]; omega
theorem poly_ok (hx : small x) (h : ∀ y w, E.Φ i [.d y] w = .ok (.d (.bool (isI y))) w) : fin w.length (evS E (bPoly i) [some (.d x), o] w) = .ok (.d (.bool (isPoly x))) w := by
  refine Ret.eq (X := fun _ _ _ => False) ?_ (fun _ _ _ h => h)
  rcases tyT x with ⟨xs, rfl⟩ | ⟨hn, ht⟩
  · unfold bPoly
    have e1 : tyB (.tuple xs) .tuple = true := rfl
    simp only [Ret_fin, RetS_cons, RetS_ifs, ev_or, Ret_tst, ev_not, ev_isi, Ret_bind, ev_var, Ret_ofO, slot_cons0, OptP_some, isiV_d, Option.map_some, List.any_cons, List.any_nil, Bool.or_false, e1, Ret_ok, BoolP_b, Bool.not_true, Bool.false_eq_true, if_false, all_comp (g := isI) (hx xs rfl) (fun y _ => h y w)]
    cases ha : xs.all isI with
    | false => simp [isPoly, ha, take_len]
    | true =>
      have eu := eq_unit (okD_ints ha)
      cases xs with
      | nil => simp [isPoly, take_len, eu, okL]
      | cons y ys =>
        rw [List.all_cons, Bool.and_eq_true] at ha
        cases y with
        | int j => simp [isPoly, isI, take_len, eu, okL, ha.2]; by_cases hj : j = 0 <;> simp [hj]
        | _ => cases ha.1
  · unfold bPoly
    simp [ht, take_len]
    cases x <;> first | rfl | exact (hn _ rfl).elim
theorem polyL_ok (hx : small x) (h : ∀ y w, E.Φ i [.d y] w = .ok (.d (.bool (isI y))) w) : fin w.length (evS E (bPolyL i) [some (.d x), o] w) = .ok (.d (.bool (isPoly x))) w := by
  refine Ret.eq (X := fun _ _ _ => False) ?_ (fun _ _ _ h => h)
  rcases tyT x with ⟨xs, rfl⟩ | ⟨hn, ht⟩
  · unfold bPolyL
    have e1 : tyB (.tuple xs) .tuple = true := rfl
    simp only [Ret_fin, RetS_cons, RetS_ifs, ev_or, Ret_tst, ev_not, ev_isi, Ret_bind, ev_var, Ret_ofO, slot_cons0, OptP_some, isiV_d, Option.map_some, List.any_cons, List.any_nil, Bool.or_false, e1, Ret_ok, BoolP_b, Bool.not_true, Bool.false_eq_true, if_false, all_comp (g := isI) (hx xs rfl) (fun y _ => h y w)]
    cases ha : xs.all isI with
    | false => simp [isPoly, ha, take_len]
    | true =>
      cases xs with
      | nil => simp [isPoly, take_len]
      | cons y ys =>
        rw [List.all_cons, Bool.and_eq_true] at ha
        cases y with
        | int j =>
          have : ¬ ((ys.length : Int) + 1 = 0) := by omega
          simp [isPoly, isI, take_len, ha.2, this]; by_cases hj : j = 0 <;> simp [hj]
        | _ => cases ha.1
  · unfold bPolyL
    simp [ht, take_len]
    cases x <;> first | rfl | exact (hn _ rfl).elim
end
end Pv
namespace Pv
open PySem
def isNum : D → Bool
  | .tuple [.int a, .int b] => decide (0 < b) && decide (Int.gcd a b = 1)
  | _ => false
def bNum (i : Nat) : St := (.cons (.ifs (.or (.not (.isi (.var 0) [.tuple])) (.or (.cmp .NotEq (.blt .len (.cons (.var 0) .nil)) (.cst (.int (2)))) (.not (.blt .all (.cons (.comp [1] (.call i (.cons (.var 1) .nil)) (.nm 1) (.seq (.var 0)) .nil) .nil))))) (.cons (.ret (.cst (.bool false))) .nil) .nil) (.cons (.ret (.and (.cmp .Gt (.sub (.var 0) (.cst (.int (1)))) (.cst (.int (0)))) (.cmp .Eq (.blt .gcd (.cons (.sub (.var 0) (.cst (.int (0)))) (.cons (.sub (.var 0) (.cst (.int (1)))) .nil))) (.cst (.int (1)))))) .nil))
def bNumL (i l : Nat) : St := (.cons (.ifs (.or (.not (.isi (.var 0) [.tuple])) (.or (.cmp .NotEq (.blt .len (.cons (.var 0) .nil)) (.cst (.int (2)))) (.not (.blt .all (.cons (.comp [1] (.call i (.cons (.var 1) .nil)) (.nm 1) (.seq (.var 0)) .nil) .nil))))) (.cons (.ret (.cst (.bool false))) .nil) .nil) (.cons (.ret (.and (.cmp .Gt (.sub (.var 0) (.cst (.int (1)))) (.cst (.int (0)))) (.cmp .Eq (.call l (.cons (.sub (.var 0) (.cst (.int (0)))) (.cons (.sub (.var 0) (.cst (.int (1)))) .nil))) (.var 0)))) .nil))
def isBro : D → Bool
  | .tuple xs => xs.all isNum && (match xs with
    | .tuple [.int a, _] :: _ => a != 0
    | _ => true)
  | _ => false
def bBro (i g : Nat) : St := (.cons (.ifs (.or (.not (.isi (.var 0) [.tuple])) (.not (.blt .all (.cons (.comp [1] (.call i (.cons (.var 1) .nil)) (.nm 1) (.seq (.var 0)) .nil) .nil)))) (.cons (.ret (.cst (.bool false))) .nil) .nil) (.cons (.ret (.or (.cmp .Eq (.var 0) (.tup .nil)) (.cmp .NotEq (.sub (.var 0) (.cst (.int (0)))) (.glob g)))) .nil))
def bBroL (i : Nat) : St := (.cons (.ifs (.or (.not (.isi (.var 0) [.tuple])) (.not (.blt .all (.cons (.comp [1] (.call i (.cons (.var 1) .nil)) (.nm 1) (.seq (.var 0)) .nil) .nil)))) (.cons (.ret (.cst (.bool false))) .nil) .nil) (.cons (.ret (.or (.cmp .Eq (.blt .len (.cons (.var 0) .nil)) (.cst (.int (0)))) (.cmp .NotEq (.sub (.sub (.var 0) (.cst (.int (0)))) (.cst (.int (0)))) (.cst (.int (0)))))) .nil))
@[simp] theorem gcd_ii {a b : Int} : bltD .gcd [.int a, .int b] = some (.int (Int.gcd a b : Nat)) := rfl
theorem low_iff {a b : Int} (hb : 0 < b) : (lowT a b = a ∧ lowB a b = b) ↔ Int.gcd a b = 1 := by
  unfold lowT lowB
  rw [if_pos hb, Int.one_mul, Int.one_mul]
  have hg : 0 < Int.gcd a b := Int.gcd_pos_of_ne_zero_right _ (by omega)
  constructor
  · rintro ⟨_, h⟩
    rw [Int.fdiv_eq_ediv_of_nonneg _ (by omega)] at h
    have hd : ((Int.gcd a b : Nat) : Int) ∣ b := Int.gcd_dvd_right ..
    have e := Int.ediv_mul_cancel hd
    rw [h] at e
    have : ((Int.gcd a b : Nat) : Int) = 1 := by
      have h1 : b * (((Int.gcd a b : Nat) : Int) - 1) = 0 := by rw [Int.mul_sub, e]; omega
      rcases Int.mul_eq_zero.mp h1 with h2 | h2 <;> omega
    omega
  · intro h
    rw [h]
    simp
theorem eq_pair {a b c e : Int} : cmpD .Eq (.tuple [.int a, .int b]) (.tuple [.int c, .int e]) = some (decide (a = c ∧ b = e)) := by
  show (if okD (.tuple [.int a, .int b]) && okD (.tuple [.int c, .int e]) then some (PyData.eqv (.tuple [.int a, .int b]) (.tuple [.int c, .int e])) else none) = _
  rw [okD_ints (by rfl), okD_ints (by rfl)]
  simp only [Bool.and_self, if_true, PyData.eqv, PyData.eqvAll]
  congr 1
  by_cases h1 : a = c <;> by_cases h2 : b = e <;> simp [h1, h2]
theorem ne_pair {a b c e : Int} : cmpD .NotEq (.tuple [.int a, .int b]) (.tuple [.int c, .int e]) = some (!decide (a = c ∧ b = e)) := by
  show (if okD (.tuple [.int a, .int b]) && okD (.tuple [.int c, .int e]) then some (!PyData.eqv (.tuple [.int a, .int b]) (.tuple [.int c, .int e])) else none) = _
  rw [okD_ints (by rfl), okD_ints (by rfl)]
  simp only [Bool.and_self, if_true, PyData.eqv, PyData.eqvAll]
  congr 2
  by_cases h1 : a = c <;> by_cases h2 : b = e <;> simp [h1, h2]
def SmI : D → Prop
  | .int i => i.natAbs.log2 < 9000
  | _ => True
def SmE : D → Prop
  | .tuple ys => ys.length ≤ 1000 ∧ ∀ z ∈ ys, SmI z
  | _ => True
def SmD : D → Prop
  | .tuple xs => xs.length ≤ 1000 ∧ ∀ y ∈ xs, SmE y
  | _ => True
section
variable {E : En} {w : W} {X : Nat → D → W → Prop} {Q : IV → W → Prop} {i l : Nat} {x : D} {o : Option IV}
theorem num_ok (hx : small x) (h : ∀ y w, E.Φ i [.d y] w = .ok (.d (.bool (isI y))) w) : fin w.length (evS E (bNum i) [some (.d x), o] w) = .ok (.d (.bool (isNum x))) w := by
  refine Ret.eq (X := fun _ _ _ => False) ?_ (fun _ _ _ h => h)
  rcases tyT x with ⟨xs, rfl⟩ | ⟨hn, ht⟩
  · unfold bNum
    have e1 : tyB (.tuple xs) .tuple = true := rfl
    match xs, hx with
    | [], _ => simp [isNum, tyB, take_len]
    | [_], _ => simp [isNum, tyB, take_len]
    | a :: b :: c :: r, _ =>
      have : ¬ ((r.length : Int) + 1 + 1 + 1 = 2) := by omega
      simp [isNum, tyB, take_len, this]
    | [a, b], hx =>
      simp only [Ret_fin, RetS_cons, RetS_ifs, ev_or, Ret_tst, ev_not, ev_isi, Ret_bind, ev_var, Ret_ofO, slot_cons0, OptP_some, isiV_d, Option.map_some, List.any_cons, List.any_nil, Bool.or_false, e1, Ret_ok, BoolP_b, Bool.not_true, Bool.false_eq_true, if_false, Ret_if, Ret_cmp, Ret_blt (f := .len), evA_cons, evA_nil, rdAll_cons, rdAll_nil, rd_d, Option.bind_some, len_tt, ev_cst, cmpV_dd, ne_ii, List.length_cons, List.length_nil, decide_true, Nat.reduceAdd, Int.reduceEq, Int.cast_ofNat_Int, all_comp (g := isI) (hx _ rfl) (fun y _ => h y w)]
      cases a with
      | int a =>
        cases b with
        | int b =>
          simp [isNum, isI, take_len]
          by_cases hb : 0 < b <;> simp [hb, take_len]
          omega
        | _ => simp [isNum, isI, take_len]
      | _ => simp [isNum, isI, take_len]
  · unfold bNum
    simp [ht, take_len]
    cases x <;> first | rfl | exact (hn _ rfl).elim
theorem numL_ok (hx : SmE x) (h : ∀ y w, E.Φ i [.d y] w = .ok (.d (.bool (isI y))) w)
    (hl : ∀ t b w, b ≠ 0 → t.natAbs.log2 < 49000 → b.natAbs.log2 < 9000 → E.Φ l [.d (.int t), .d (.int b)] w = .ok (.d (.tuple [.int (lowT t b), .int (lowB t b)])) w) :
    fin w.length (evS E (bNumL i l) [some (.d x), o] w) = .ok (.d (.bool (isNum x))) w := by
  refine Ret.eq (X := fun _ _ _ => False) ?_ (fun _ _ _ h => h)
  rcases tyT x with ⟨xs, rfl⟩ | ⟨hn, ht⟩
  · unfold bNumL
    have e1 : tyB (.tuple xs) .tuple = true := rfl
    have hlen : xs.length ≤ 16777216 := Nat.le_trans hx.1 (by decide)
    match xs, hx, hlen with
    | [], _, _ => simp [isNum, tyB, take_len]
    | [_], _, _ => simp [isNum, tyB, take_len]
    | a :: b :: c :: r, _, _ =>
      have : ¬ ((r.length : Int) + 1 + 1 + 1 = 2) := by omega
      simp [isNum, tyB, take_len, this]
    | [a, b], hx, hlen =>
      simp only [Ret_fin, RetS_cons, RetS_ifs, ev_or, Ret_tst, ev_not, ev_isi, Ret_bind, ev_var, Ret_ofO, slot_cons0, OptP_some, isiV_d, Option.map_some, List.any_cons, List.any_nil, Bool.or_false, e1, Ret_ok, BoolP_b, Bool.not_true, Bool.false_eq_true, if_false, Ret_if, Ret_cmp, Ret_blt (f := .len), evA_cons, evA_nil, rdAll_cons, rdAll_nil, rd_d, Option.bind_some, len_tt, ev_cst, cmpV_dd, ne_ii, List.length_cons, List.length_nil, decide_true, Nat.reduceAdd, Int.reduceEq, Int.cast_ofNat_Int, all_comp (g := isI) hlen (fun y _ => h y w)]
      cases a with
      | int a =>
        cases b with
        | int b =>
          have s1 : a.natAbs.log2 < 9000 := hx.2 (.int a) (by simp)
          have s2 : b.natAbs.log2 < 9000 := hx.2 (.int b) (by simp)
          simp [isNum, isI, take_len]
          by_cases hb : 0 < b
          · simp [hb, take_len, hl a b w (by omega) (by omega) s2, eq_pair, low_iff hb]
          · simp [hb, take_len]
        | _ => simp [isNum, isI, take_len]
      | _ => simp [isNum, isI, take_len]
  · unfold bNumL
    simp [ht, take_len]
    cases x <;> first | rfl | exact (hn _ rfl).elim
theorem num_cases {x : D} (h : isNum x = true) : ∃ a b : Int, x = .tuple [.int a, .int b] ∧ 0 < b ∧ Int.gcd a b = 1 := by
  unfold isNum at h
  split at h
  · rw [Bool.and_eq_true, decide_eq_true_eq, decide_eq_true_eq] at h
    exact ⟨_, _, rfl, h.1, h.2⟩
  · cases h
theorem plain_nums : ∀ {xs : List D}, xs.all isNum = true → PyData.plainAll xs = true
  | [], _ => rfl
  | x :: xs, h => by
    rw [List.all_cons, Bool.and_eq_true] at h
    obtain ⟨a, b, rfl, _⟩ := num_cases h.1
    rw [PyData.plainAll, plain_nums h.2]
    rfl
theorem depth_nums : ∀ {xs : List D}, xs.all isNum = true → PyData.depthAll xs ≤ 3
  | [], _ => by simp [PyData.depthAll]
  | x :: xs, h => by
    rw [List.all_cons, Bool.and_eq_true] at h
    have := depth_nums h.2
    obtain ⟨a, b, rfl, _⟩ := num_cases h.1
    simp [PyData.depthAll, PyData.depth]; omega
theorem okD_nums {xs : List D} (h : xs.all isNum = true) : okD (.tuple xs) = true := by
  unfold okD
  rw [Bool.and_eq_true]
  refine ⟨by rw [PyData.plain]; exact plain_nums h, decide_eq_true ?_⟩
  have := depth_nums h
  rw [PyData.depth]; omega
theorem bro_ok {g : Nat} (hg : E.G g = some (.tuple [.int 0, .int 1])) (hx : small x) (h : ∀ xs y, x = .tuple xs → y ∈ xs → E.Φ i [.d y] w = .ok (.d (.bool (isNum y))) w) : fin w.length (evS E (bBro i g) [some (.d x), o] w) = .ok (.d (.bool (isBro x))) w := by
  refine Ret.eq (X := fun _ _ _ => False) ?_ (fun _ _ _ h => h)
  rcases tyT x with ⟨xs, rfl⟩ | ⟨hn, ht⟩
  · unfold bBro
    have e1 : tyB (.tuple xs) .tuple = true := rfl
    simp only [Ret_fin, RetS_cons, RetS_ifs, ev_or, Ret_tst, ev_not, ev_isi, Ret_bind, ev_var, Ret_ofO, slot_cons0, OptP_some, isiV_d, Option.map_some, List.any_cons, List.any_nil, Bool.or_false, e1, Ret_ok, BoolP_b, Bool.not_true, Bool.false_eq_true, if_false, all_comp (g := isNum) (hx xs rfl) (fun y hy => h xs y rfl hy)]
    cases ha : xs.all isNum with
    | false => simp [isBro, ha, take_len]
    | true =>
      have eu := eq_unit (okD_nums ha)
      cases xs with
      | nil => simp [isBro, take_len, eu, okL]
      | cons y ys =>
        have ha' := ha
        rw [List.all_cons, Bool.and_eq_true] at ha'
        obtain ⟨a, b, rfl, hb, hg1⟩ := num_cases ha'.1
        simp [isBro, take_len, eu, okL, ha, hg, ne_pair]
        by_cases h0 : a = 0
        · subst h0
          have : b = 1 := by
            rw [Int.gcd_zero_left] at hg1; omega
          simp [this]
        · simp [h0]
  · unfold bBro
    simp [ht, take_len]
    cases x <;> first | rfl | exact (hn _ rfl).elim
theorem broL_ok (hx : small x) (h : ∀ xs y, x = .tuple xs → y ∈ xs → E.Φ i [.d y] w = .ok (.d (.bool (isNum y))) w) : fin w.length (evS E (bBroL i) [some (.d x), o] w) = .ok (.d (.bool (isBro x))) w := by
  refine Ret.eq (X := fun _ _ _ => False) ?_ (fun _ _ _ h => h)
  rcases tyT x with ⟨xs, rfl⟩ | ⟨hn, ht⟩
  · unfold bBroL
    have e1 : tyB (.tuple xs) .tuple = true := rfl
    simp only [Ret_fin, RetS_cons, RetS_ifs, ev_or, Ret_tst, ev_not, ev_isi, Ret_bind, ev_var, Ret_ofO, slot_cons0, OptP_some, isiV_d, Option.map_some, List.any_cons, List.any_nil, Bool.or_false, e1, Ret_ok, BoolP_b, Bool.not_true, Bool.false_eq_true, if_false, all_comp (g := isNum) (hx xs rfl) (fun y hy => h xs y rfl hy)]
    cases ha : xs.all isNum with
    | false => simp [isBro, ha, take_len]
    | true =>
      cases xs with
      | nil => simp [isBro, take_len]
      | cons y ys =>
        have ha' := ha
        rw [List.all_cons, Bool.and_eq_true] at ha'
        obtain ⟨a, b, rfl, hb, hg1⟩ := num_cases ha'.1
        have hl : ¬ ((ys.length : Int) + 1 = 0) := by omega
        simp [isBro, take_len, ha, hl]
        by_cases h0 : a = 0 <;> simp [h0]
  · unfold bBroL
    simp [ht, take_len]
    cases x <;> first | rfl | exact (hn _ rfl).elim
end
end Pv
namespace Pv
open PySem
def nD (r : Rat) : D := .tuple [.int r.num, .int (r.den : Int)]
theorem rat_parts {a b : Int} (hb : 0 < b) (hg : Int.gcd a b = 1) : ((a : Rat) / (b : Rat)).num = a ∧ (((a : Rat) / (b : Rat)).den : Int) = b := by
  have hg : a.natAbs.Coprime b.natAbs := hg
  have e : (⟨a, b.natAbs, by omega, hg⟩ : Rat) = (a : Rat) / (b : Rat) := by
    rw [Rat.mk_eq_divInt, show ((b.natAbs : Nat) : Int) = b by omega, Rat.divInt_eq_div]
  rw [← e]
  exact ⟨rfl, by show ((b.natAbs : Nat) : Int) = b; omega⟩
theorem nD_of {a b : Int} (hb : 0 < b) (hg : Int.gcd a b = 1) : (.tuple [.int a, .int b] : D) = nD ((a : Rat) / (b : Rat)) := by
  obtain ⟨h1, h2⟩ := rat_parts hb hg
  unfold nD
  rw [h1, h2]
theorem rat_eq {t b u v : Int} (hb : b ≠ 0) (hv : v ≠ 0) (h : t * v = u * b) : (t : Rat) / (b : Rat) = (u : Rat) / (v : Rat) := by
  rw [← Rat.divInt_eq_div, ← Rat.divInt_eq_div, Rat.divInt_eq_divInt_iff hb hv]
  exact h
theorem low_nD {t b : Int} (hb : b ≠ 0) : (.tuple [.int (lowT t b), .int (lowB t b)] : D) = nD ((t : Rat) / (b : Rat)) := by
  have hg : 0 < Int.gcd t b := Int.gcd_pos_of_ne_zero_right _ hb
  have d1 : ((Int.gcd t b : Nat) : Int) ∣ t := Int.gcd_dvd_left ..
  have d2 : ((Int.gcd t b : Nat) : Int) ∣ b := Int.gcd_dvd_right ..
  have hgc : Int.gcd (t / (Int.gcd t b : Nat)) (b / (Int.gcd t b : Nat)) = 1 := Int.gcd_ediv_gcd_ediv_gcd hg
  have m1 := Int.ediv_mul_cancel d1
  have m2 := Int.ediv_mul_cancel d2
  have gp : (1 : Int) ≤ (Int.gcd t b : Nat) := by omega
  by_cases hp : 0 < b
  · have e1 : lowT t b = t / (Int.gcd t b : Nat) := by
      unfold lowT
      rw [if_pos hp, Int.one_mul, Int.fdiv_eq_ediv_of_nonneg _ (by omega)]
    have e2 : lowB t b = b / (Int.gcd t b : Nat) := by
      unfold lowB
      rw [if_pos hp, Int.one_mul, Int.fdiv_eq_ediv_of_nonneg _ (by omega)]
    rw [e1, e2]
    generalize t / (Int.gcd t b : Nat) = u at *
    generalize b / (Int.gcd t b : Nat) = v at *
    generalize ((Int.gcd t b : Nat) : Int) = g at *
    have hv : 0 < v := by
      rcases Int.lt_or_le 0 v with h | h
      · exact h
      · have : v * g ≤ 0 := Int.mul_nonpos_of_nonpos_of_nonneg h (by omega)
        omega
    rw [nD_of hv hgc]
    exact congrArg nD (rat_eq (by omega) hb (by grind))
  · have e1 : lowT t b = -(t / (Int.gcd t b : Nat)) := by
      unfold lowT
      rw [if_neg hp, Int.fdiv_eq_ediv_of_nonneg _ (by omega), show (-1 : Int) * t = -t by omega, Int.neg_ediv_of_dvd d1]
    have e2 : lowB t b = -(b / (Int.gcd t b : Nat)) := by
      unfold lowB
      rw [if_neg hp, Int.fdiv_eq_ediv_of_nonneg _ (by omega), show (-1 : Int) * b = -b by omega, Int.neg_ediv_of_dvd d2]
    rw [e1, e2]
    generalize t / (Int.gcd t b : Nat) = u at *
    generalize b / (Int.gcd t b : Nat) = v at *
    generalize ((Int.gcd t b : Nat) : Int) = g at *
    have hv : 0 < -v := by
      rcases Int.lt_or_le v 0 with h | h
      · omega
      · have : 0 ≤ v * g := Int.mul_nonneg h (by omega)
        omega
    rw [nD_of hv (by rw [Int.neg_gcd, Int.gcd_neg]; exact hgc)]
    exact congrArg nD (rat_eq (by omega) hb (by grind))
theorem isNum_nD (r : Rat) : isNum (nD r) = true := by
  show (decide (0 < (r.den : Int)) && decide (Int.gcd r.num r.den = 1)) = true
  rw [decide_eq_true (by have := r.den_nz; omega), decide_eq_true (by exact r.reduced)]
  rfl
theorem num_nD {x : D} (h : isNum x = true) : ∃ r, x = nD r := by
  obtain ⟨a, b, rfl, hb, hg⟩ := num_cases h
  exact ⟨_, nD_of hb hg⟩
theorem nD_inj {r s : Rat} (h : nD r = nD s) : r = s := by
  unfold nD at h
  simp at h
  exact Rat.ext h.1 (by omega)
end Pv
namespace Pv
open PySem
def vl (f : List Rat) (x : Rat) : Rat := f.foldl (fun t a => t * x + a) 0
def toR (f : List Int) : List Rat := f.map fun (a : Int) => (a : Rat)
theorem fold_vl (x : Rat) : ∀ (f : List Rat) (t : Rat), f.foldl (fun t a => t * x + a) t = t * x ^ f.length + vl f x
  | [], t => by
    show t = t * x ^ 0 + 0
    grind
  | a :: f, t => by
    show f.foldl (fun t a => t * x + a) (t * x + a) = t * x ^ (f.length + 1) + f.foldl (fun t a => t * x + a) (0 * x + a)
    rw [fold_vl x f (t * x + a), fold_vl x f (0 * x + a)]
    grind
theorem vl_nil (x : Rat) : vl [] x = 0 := rfl
theorem vl_cons (a : Rat) (f : List Rat) (x : Rat) : vl (a :: f) x = a * x ^ f.length + vl f x := by
  show f.foldl (fun t a => t * x + a) (0 * x + a) = _
  rw [fold_vl x f (0 * x + a)]
  grind
theorem vl_snoc (f : List Rat) (a x : Rat) : vl (f ++ [a]) x = vl f x * x + a := by
  unfold vl
  rw [List.foldl_append]
  rfl
theorem vl_zero (f : List Rat) (x : Rat) : vl (0 :: f) x = vl f x := by rw [vl_cons]; grind
def strip : List Rat → List Rat
  | [] => []
  | a :: f => if a = 0 then strip f else a :: f
theorem vl_strip (x : Rat) : ∀ f : List Rat, vl (strip f) x = vl f x
  | [] => rfl
  | a :: f => by
    unfold strip
    split
    · rename_i h
      rw [h, vl_zero, vl_strip x f]
    · rfl
theorem vl_pad (x : Rat) (f : List Rat) : ∀ n : Nat, vl (List.replicate n 0 ++ f) x = vl f x
  | 0 => rfl
  | n + 1 => by
    show vl (0 :: (List.replicate n 0 ++ f)) x = _
    rw [vl_zero, vl_pad x f n]
theorem vl_add (x : Rat) : ∀ (f g : List Rat), f.length = g.length → vl (List.zipWith (· + ·) f g) x = vl f x + vl g x
  | [], [], _ => by show (0 : Rat) = 0 + 0; grind
  | a :: f, b :: g, h => by
    have h' : f.length = g.length := by simpa using h
    rw [List.zipWith_cons_cons, vl_cons, vl_cons, vl_cons, vl_add x f g h', List.length_zipWith, ← h', Nat.min_self]
    grind
  | [], _ :: _, h => by cases h
  | _ :: _, [], h => by cases h
theorem vl_scale (k x : Rat) : ∀ f : List Rat, vl (f.map (k * ·)) x = k * vl f x
  | [] => by show (0 : Rat) = k * 0; grind
  | a :: f => by rw [List.map_cons, vl_cons, vl_cons, vl_scale k x f, List.length_map]; grind
theorem vl_set (x d : Rat) : ∀ (f : List Rat) (j : Nat) (a : Rat), f[j]? = some a → vl (f.set j (a + d)) x = vl f x + d * x ^ (f.length - 1 - j)
  | [], j, a, h => by simp at h
  | b :: f, 0, a, h => by
    have e : b = a := by simpa using h
    subst e
    rw [List.set_cons_zero, vl_cons, vl_cons, List.length_cons, show f.length + 1 - 1 - 0 = f.length by omega]
    grind
  | b :: f, j + 1, a, h => by
    have h' : f[j]? = some a := by simpa using h
    rw [List.set_cons_succ, vl_cons, vl_cons, vl_set x d f j a h', List.length_set, List.length_cons, show f.length + 1 - 1 - (j + 1) = f.length - 1 - j by omega]
    grind
def hgo (p q : Int) : List Int → Int → Int → Int × Int
  | [], t, b => (t, b)
  | a :: f, t, b => hgo p q f (t * p + a * (b * q)) (b * q)
theorem hgo_vl {p q : Int} (hq : q ≠ 0) : ∀ (f : List Int) (t b : Int), b ≠ 0 → (hgo p q f t b).2 ≠ 0 ∧ ((hgo p q f t b).1 : Rat) / ((hgo p q f t b).2 : Rat) = (toR f).foldl (fun u a => u * ((p : Rat) / (q : Rat)) + a) ((t : Rat) / (b : Rat))
  | [], t, b, hb => ⟨hb, rfl⟩
  | a :: f, t, b, hb => by
    have hbq : b * q ≠ 0 := Int.mul_ne_zero hb hq
    obtain ⟨h1, h2⟩ := hgo_vl hq f (t * p + a * (b * q)) (b * q) hbq
    refine ⟨h1, ?_⟩
    show ((hgo p q f (t * p + a * (b * q)) (b * q)).1 : Rat) / ((hgo p q f (t * p + a * (b * q)) (b * q)).2 : Rat) = _
    rw [h2]
    show List.foldl _ _ (toR f) = List.foldl _ ((t : Rat) / (b : Rat) * ((p : Rat) / (q : Rat)) + (a : Rat)) (toR f)
    congr 1
    have hb' : (b : Rat) ≠ 0 := by
      intro z; exact hb (by exact_mod_cast z)
    have hq' : (q : Rat) ≠ 0 := by
      intro z; exact hq (by exact_mod_cast z)
    rw [Rat.intCast_add, Rat.intCast_mul, Rat.intCast_mul, Rat.intCast_mul]
    grind
end Pv
namespace Pv
open PySem
end Pv
namespace Pv
open PySem
section
variable {E : En} {w : W} {o : Option IV}
theorem okDiv_abs {i j : Int} (h0 : j ≠ 0) (h : j.natAbs.log2 < 9000) : okDiv i j = true := by
  unfold okDiv
  simp only [Bool.and_eq_true, Bool.or_eq_true, decide_eq_true_eq]
  exact ⟨by simpa using h0, .inl h⟩
theorem gcd_log {t b : Int} (hb : b ≠ 0) (h2 : b.natAbs.log2 < 9000) : (Int.gcd t b).log2 < 9000 := by
  have hg : 0 < Int.gcd t b := Int.gcd_pos_of_ne_zero_right _ hb
  have q := Nat.gcd_le_right t.natAbs (n := b.natAbs) (by omega)
  have q2 : b.natAbs < 2 ^ 9000 := Nat.lt_of_lt_of_le Nat.lt_log2_self (Nat.pow_le_pow_right (by decide) h2)
  exact (Nat.log2_lt (by omega)).mpr (Nat.lt_of_le_of_lt q q2)
theorem fdiv_neg' {a b : Int} (h : b ∣ a) : a.fdiv (-b) = (-a).fdiv b := by
  rw [Int.fdiv_eq_ediv_of_dvd (Int.neg_dvd.mpr h), Int.fdiv_eq_ediv_of_dvd (Int.dvd_neg.mpr h), Int.ediv_neg, Int.neg_ediv_of_dvd h]
theorem cut_from {xs : List D} (j : Nat) : cut xs (some (j : Int)) none = xs.drop j := by
  have c : clip xs.length 0 (some (j : Int)) = min j xs.length := by
    show (if (j : Int) < 0 then (if (j : Int) + (xs.length : Int) < 0 then 0 else ((j : Int) + (xs.length : Int)).toNat) else (if (xs.length : Int) < (j : Int) then xs.length else (j : Int).toNat)) = _
    rw [if_neg (by omega)]
    split <;> omega
  unfold cut
  rw [c]
  show List.take (xs.length - min j xs.length) (List.drop (min j xs.length) xs) = _
  rw [List.take_of_length_le (by rw [List.length_drop]; omega)]
  by_cases h : j ≤ xs.length
  · rw [Nat.min_eq_left h]
  · rw [Nat.min_eq_right (by omega), List.drop_eq_nil_of_le (Nat.le_refl _), List.drop_eq_nil_of_le (by omega)]
theorem lowest_ok {t b : Int} (hb : b ≠ 0) (h2 : b.natAbs.log2 < 9000) : fin w.length (evS E B_lowest [some (.d (.int t)), some (.d (.int b)), none] w) = .ok (.d (nD ((t : Rat) / (b : Rat)))) w := by
  refine Ret.eq (X := fun _ _ _ => False) ?_ (fun _ _ _ h => h)
  rw [← low_nD hb]
  have hg : 0 < Int.gcd t b := Int.gcd_pos_of_ne_zero_right _ hb
  have lg := gcd_log (t := t) hb h2
  have o1 : ∀ i : Int, okDiv i ((Int.gcd t b : Nat) : Int) = true := fun i => okDiv_abs (by omega) (by simpa using lg)
  have o2 : ∀ i : Int, okDiv i (-((Int.gcd t b : Nat) : Int)) = true := fun i => okDiv_abs (by omega) (by simpa using lg)
  unfold B_lowest
  by_cases hp : b < 0
  · have hn : ¬ 0 < b := by omega
    simp [hp, o2, take_len, lowT, lowB, hn, okL]
    exact ⟨by rw [fdiv_neg' (Int.gcd_dvd_left ..)], by rw [fdiv_neg' (Int.gcd_dvd_right ..)]⟩
  · have hn : 0 < b := by omega
    simp [hp, o1, take_len, lowT, lowB, hn, okL]
theorem stripped_ok {x nought : D} {xs : List D} {z : D → Bool} (hx : x = .list xs ∨ x = .tuple xs) (hl : xs.length < 16777216) (hq : E.q = 16777216) (hz : ∀ y ∈ xs, cmpD .Eq y nought = some (z y)) :
    fin w.length (evS E B_stripped [some (.d x), some (.d nought), o] w) = .ok (.d (.tuple (xs.dropWhile z))) w := by
  refine Ret.eq (X := fun _ _ _ => False) ?_ (fun _ _ _ h => h)
  have len : bltD .len [x] = some (.int xs.length) := by rcases hx with rfl | rfl <;> rfl
  have sub : ∀ (j : Nat) (y : D), xs[j]? = some y → subD x (.int (j : Int)) = some y := fun j y h => by
    rcases hx with rfl | rfl
    · exact sub_nat h
    · exact tub_nat h
  unfold B_stripped
  simp only [Ret_fin, RetS_cons, evS_asgN, RetS_onE, ev_cst, Ret_ok, RetS_mk, sq_next, evS_whl]
  refine RetS.nx (M := fun σ w' => w' = w ∧ ∃ at_ : Nat, σ = [some (.d x), some (.d nought), some (.d (.int (at_ : Int)))] ∧ xs.drop at_ = xs.dropWhile z) ?_ ?_
  · refine whlL_inv (fun m σ w' => w' = w ∧ ∃ at_ : Nat, m + at_ = xs.length ∧ σ = [some (.d x), some (.d nought), some (.d (.int (at_ : Int)))] ∧ (xs.drop at_).dropWhile z = xs.dropWhile z) (m := xs.length) (by omega) ⟨rfl, 0, rfl, rfl, rfl⟩ ?_
    rintro m σ w' ⟨rfl, at_, hm, rfl, hd⟩
    by_cases hlt : at_ < xs.length
    · have hy := List.getElem?_eq_getElem hlt
      have e := sub at_ _ hy
      have ez := hz xs[at_] (List.getElem_mem hlt)
      have dr : xs.drop at_ = xs[at_] :: xs.drop (at_ + 1) := List.drop_eq_getElem_cons hlt
      have hlt' : (at_ : Int) < (xs.length : Int) := by omega
      simp [len, e, ez, hlt']
      cases hzz : z xs[at_] with
      | false =>
        simp
        exact ⟨at_, rfl, by rw [← hd, dr, List.dropWhile_cons, hzz]; rfl⟩
      | true =>
        simp
        refine ⟨m - 1, by omega, at_ + 1, by omega, by simp, ?_⟩
        rw [← hd, dr, List.dropWhile_cons, hzz]
        simp
    · have hlt' : ¬ (at_ : Int) < (xs.length : Int) := by omega
      simp [len, hlt']
      exact ⟨at_, rfl, by rw [← hd, List.drop_eq_nil_of_le (by omega)]; rfl⟩
  · rintro σ w' ⟨rfl, at_, rfl, hd⟩
    have hc : slD x (some (at_ : Int)) none = some (match x with
      | .list _ => .list (xs.drop at_)
      | _ => .tuple (xs.drop at_)) := by
      have c : cut xs (some (at_ : Int)) none = xs.drop at_ := cut_from at_
      rcases hx with rfl | rfl <;> (show some _ = _; rw [c])
    rcases hx with rfl | rfl <;> (simp [hc, take_len]; rw [← hd]; rfl)
theorem padded_ok {x nought : D} {xs : List D} {many : Nat} (hx : x = .list xs ∨ x = .tuple xs) (h1 : xs.length ≤ many) (h2 : many ≤ 1000) :
    fin w.length (evS E B_padded [some (.d x), some (.d (.int (many : Int))), some (.d nought)] w) = .ok (.d (.tuple (List.replicate (many - xs.length) nought ++ xs))) w := by
  refine Ret.eq (X := fun _ _ _ => False) ?_ (fun _ _ _ h => h)
  have len : bltD .len [x] = some (.int xs.length) := by rcases hx with rfl | rfl <;> rfl
  have tt : bltD .tuple [x] = some (.tuple xs) := by rcases hx with rfl | rfl <;> rfl
  have fl : ∀ n : Nat, (List.replicate n [nought]).flatten = List.replicate n nought := fun n => by
    induction n with
    | zero => rfl
    | succ n ih => rw [List.replicate_succ, List.flatten_cons, ih]; rfl
  have e : ((many : Int) - xs.length).toNat = many - xs.length := by omega
  unfold B_padded
  simp [len, tt, fl, e, take_len, okL]
  omega
end
end Pv
namespace Pv
open PySem
def iM (f : List Int) : List D := f.map .int
def iT (f : List Int) : D := .tuple (iM f)
@[simp] theorem iM_len {f : List Int} : (iM f).length = f.length := List.length_map ..
def is0 (a : Int) : Bool := a == 0
def stripI (f : List Int) : List Int := f.dropWhile is0
def padI (n : Nat) (f : List Int) : List Int := List.replicate (n - f.length) 0 ++ f
def addI (f g : List Int) : List Int := stripI (List.zipWith (· + ·) (padI (max f.length g.length) f) (padI (max f.length g.length) g))
def z0 : D → Bool
  | .int a => a == 0
  | _ => false
theorem drop_int : ∀ f : List Int, (iM f).dropWhile z0 = iM (stripI f)
  | [] => rfl
  | a :: f => by
    show (PyData.int a :: iM f).dropWhile z0 = iM ((a :: f).dropWhile is0)
    rw [List.dropWhile_cons, List.dropWhile_cons]
    show (if (a == 0) = true then _ else _) = iM (if (a == 0) = true then _ else _)
    cases a == 0 with
    | true => exact drop_int f
    | false => rfl
section
variable {E : En} {w : W} {o o1 o2 o3 : Option IV} {f g : List Int} {i j : Nat}
theorem stripped_int {x : D} (hx : x = .list (iM f) ∨ x = iT f) (hl : f.length < 16777216) (hq : E.q = 16777216) :
    fin w.length (evS E B_stripped [some (.d x), some (.d (.int 0)), o] w) = .ok (.d (iT (stripI f))) w := by
  have := stripped_ok (E := E) (w := w) (o := o) (x := x) (nought := .int 0) (xs := iM f) (z := z0) hx (by simpa using hl) hq (fun y hy => by
    obtain ⟨a, _, rfl⟩ := List.mem_map.mp hy
    rw [eq_ii]
    show some (decide (a = 0)) = some (a == 0)
    rfl)
  rw [this, drop_int]
  rfl
theorem padded_int {n : Nat} (h1 : f.length ≤ n) (h2 : n ≤ 1000) :
    fin w.length (evS E B_padded [some (.d (iT f)), some (.d (.int (n : Int))), some (.d (.int 0))] w) = .ok (.d (iT (padI n f))) w := by
  have := padded_ok (E := E) (w := w) (x := iT f) (nought := .int 0) (xs := iM f) (many := n) (.inr rfl) (by simpa using h1) h2
  rw [this]
  unfold iT iM padI
  rw [List.map_append, List.map_replicate, List.length_map]
theorem zip_int : ∀ f g : List Int, zipD (iM f) (iM g) = (List.zip f g).map fun p => .tuple [.int p.1, .int p.2]
  | [], _ => by simp [iM, zipD]
  | _ :: _, [] => by simp [iM, zipD]
  | a :: f, b :: g => by
    show PyData.tuple [.int a, .int b] :: zipD (iM f) (iM g) = _
    rw [zip_int f g]; rfl
theorem sum_comp {x y : Nat} {σ : Sl} (hx : x < σ.length) (hy : y < σ.length) (hxy : x ≠ y) : compL (elF (isNil .nil) (.tup (.cons (.nm x) (.cons (.nm y) .nil))) (ev E .nil) (ev E (.bin .Add (.var x) (.var y))) σ) (zipD (iM f) (iM g)) w = .ok (iM (List.zipWith (· + ·) f g)) w := by
  have e := compL_map (f := elF (isNil .nil) (.tup (.cons (.nm x) (.cons (.nm y) .nil))) (ev E .nil) (ev E (.bin .Add (.var x) (.var y))) σ) (w := w) (xs := zipD (iM f) (iM g)) (g := fun d => match d with
    | .tuple [.int a, .int b] => .int (a + b)
    | _ => .none) (fun z hz => by
      rw [zip_int] at hz
      obtain ⟨p, _, rfl⟩ := List.mem_map.mp hz
      refine Ret.eq (X := fun _ _ _ => False) ?_ (fun _ _ _ h => h)
      show Ret _ _ (elF true _ _ _ _ _ _)
      rw [Ret_elT]
      simp [slot_set, hx, hy, hxy, hxy.symm])
  rw [e, zip_int, List.map_map]
  congr 1
  show List.map (fun p : Int × Int => PyData.int (p.1 + p.2)) (f.zip g) = List.map PyData.int _
  rw [← List.map_uncurry_zip_eq_zipWith, List.map_map]
  rfl
theorem sum_of_ok (hf : f.length ≤ 500) (hg : g.length ≤ 500)
    (hs : ∀ (h : List Int) (w : W), h.length ≤ 1000 → E.Φ i [.d (.list (iM h)), .d (.int 0)] w = .ok (.d (iT (stripI h))) w)
    (hp : ∀ (h : List Int) (n : Nat) (w : W), h.length ≤ n → n ≤ 1000 → E.Φ j [.d (iT h), .d (.int (n : Int)), .d (.int 0)] w = .ok (.d (iT (padI n h))) w) :
    fin w.length (evS E (B_sum_of i j) [some (.d (iT f)), some (.d (iT g)), o, o1, o2] w) = .ok (.d (iT (addI f g))) w := by
  refine Ret.eq (X := fun _ _ _ => False) ?_ (fun _ _ _ h => h)
  have mx : bltD .max [.int (f.length : Int), .int (g.length : Int)] = some (.int ((max f.length g.length : Nat) : Int)) := by
    show some (PyData.int (if (g.length : Int) > f.length then g.length else f.length)) = _
    congr 2
    split <;> omega
  have lf : bltD .len [iT f] = some (.int f.length) := by show some (PyData.int ((iM f).length : Int)) = _; rw [iM_len]
  have lg : bltD .len [iT g] = some (.int g.length) := by show some (PyData.int ((iM g).length : Int)) = _; rw [iM_len]
  have pf := fun w => hp f (max f.length g.length) w (by omega) (by omega)
  have pg := fun w => hp g (max f.length g.length) w (by omega) (by omega)
  have ln : ∀ h : List Int, h.length ≤ max f.length g.length → (padI (max f.length g.length) h).length = max f.length g.length := fun h hh => by
    unfold padI
    rw [List.length_append, List.length_replicate]; omega
  unfold B_sum_of
  have sc := sum_comp (E := E) (w := w) (f := padI (max f.length g.length) f) (g := padI (max f.length g.length) g) (x := 3) (y := 4) (σ := wip [some (.d (iT f)), some (.d (iT g)), some (.d (.int ((max f.length g.length : Nat) : Int))), o1, o2] [3, 4]) (by simp [wip]) (by simp [wip]) (by decide)
  have zl : okL (zipD (iM (padI (max f.length g.length) f)) (iM (padI (max f.length g.length) g))).length = true := by
    rw [zipD_len, iM_len, iM_len, ln f (by omega), ln g (by omega)]
    exact decide_eq_true (by omega)
  have st := hs (List.zipWith (· + ·) (padI (max f.length g.length) f) (padI (max f.length g.length) g)) w (by rw [List.length_zipWith, ln f (by omega), ln g (by omega)]; omega)
  have zp : ∀ p : List D → Prop, ZipP (.d (iT (padI (max f.length g.length) f))) (.d (iT (padI (max f.length g.length) g))) p = p (zipD (iM (padI (max f.length g.length) f)) (iM (padI (max f.length g.length) g))) := fun _ => rfl
  have ln' : ∀ h : List Int, bltD .len [iT h] = some (.int h.length) := fun h => by show some (PyData.int ((iM h).length : Int)) = _; rw [iM_len]
  simp [ln', mx, pf, pg, zp, sc, zl, st, take_len]
  rfl
end
end Pv
namespace Pv
open PySem
def innI (k : Nat) (a : Int) : List Int → Nat → List Int → List Int
  | [], _, acc => acc
  | b :: g, p, acc => innI k a g (p + 1) (acc.set (k + p) (acc.getD (k + p) 0 + a * b))
def outI (g : List Int) : List Int → Nat → List Int → List Int
  | [], _, acc => acc
  | a :: f, k, acc => outI g f (k + 1) (innI k a g 0 acc)
def mulI (f g : List Int) : List Int := if f.isEmpty || g.isEmpty then [] else outI g f 0 (List.replicate (f.length + g.length - 1) 0)
theorem innI_len (k : Nat) (a : Int) : ∀ (g : List Int) (p : Nat) (acc : List Int), (innI k a g p acc).length = acc.length
  | [], _, _ => rfl
  | b :: g, p, acc => by
    show (innI k a g (p + 1) _).length = _
    rw [innI_len k a g, List.length_set]
theorem outI_len (g : List Int) : ∀ (f : List Int) (k : Nat) (acc : List Int), (outI g f k acc).length = acc.length
  | [], _, _ => rfl
  | a :: f, k, acc => by
    show (outI g f (k + 1) _).length = _
    rw [outI_len g f, innI_len]
theorem mulI_len {f g : List Int} (hf : f ≠ []) (hg : g ≠ []) : (mulI f g).length = f.length + g.length - 1 := by
  unfold mulI
  have h1 : f.isEmpty = false := by cases f <;> first | rfl | exact absurd rfl hf
  have h2 : g.isEmpty = false := by cases g <;> first | rfl | exact absurd rfl hg
  rw [h1, h2, Bool.or_self, if_neg Bool.false_ne_true, outI_len, List.length_replicate]
theorem toR_len {f : List Int} : (toR f).length = f.length := List.length_map ..
theorem toR_set {f : List Int} {j : Nat} {a : Int} : toR (f.set j a) = (toR f).set j (a : Rat) := by
  unfold toR
  rw [List.map_set]
theorem innI_vl (k : Nat) (a : Int) (x : Rat) : ∀ (g : List Int) (p : Nat) (acc : List Int), k + p + g.length ≤ acc.length → vl (toR (innI k a g p acc)) x = vl (toR acc) x + (a : Rat) * vl (toR g) x * x ^ (acc.length - (k + p + g.length))
  | [], p, acc, _ => by
    show vl (toR acc) x = vl (toR acc) x + (a : Rat) * vl [] x * _
    rw [vl_nil]; grind
  | b :: g, p, acc, h => by
    rw [List.length_cons] at h
    have hk : k + p < acc.length := by omega
    show vl (toR (innI k a g (p + 1) (acc.set (k + p) (acc.getD (k + p) 0 + a * b)))) x = _
    rw [innI_vl k a x g (p + 1) _ (by rw [List.length_set]; omega), List.length_set, toR_set, Rat.intCast_add, Rat.intCast_mul]
    have hg : (toR acc)[k + p]? = some ((acc.getD (k + p) 0 : Int) : Rat) := by
      unfold toR
      rw [List.getElem?_map, List.getD_eq_getElem?_getD, List.getElem?_eq_getElem hk]
      rfl
    rw [vl_set x _ _ _ _ hg, toR_len]
    show _ = vl (toR acc) x + (a : Rat) * vl ((b : Rat) :: toR g) x * _
    rw [vl_cons, toR_len, List.length_cons, show acc.length - (k + (p + 1) + g.length) = acc.length - (k + p + (g.length + 1)) by omega,
      show acc.length - 1 - (k + p) = g.length + (acc.length - (k + p + (g.length + 1))) by omega]
    generalize acc.length - (k + p + (g.length + 1)) = m
    have e : x ^ (g.length + m) = x ^ g.length * x ^ m := by grind
    rw [e]
    grind
theorem outI_vl (g : List Int) (x : Rat) : ∀ (f : List Int) (k : Nat) (acc : List Int), f ≠ [] → acc.length = k + f.length + g.length - 1 → 1 ≤ g.length → vl (toR (outI g f k acc)) x = vl (toR acc) x + vl (toR f) x * vl (toR g) x
  | [], _, _, h, _, _ => absurd rfl h
  | [a], k, acc, _, hl, hg => by
    show vl (toR (innI k a g 0 acc)) x = _
    rw [List.length_singleton] at hl
    rw [innI_vl k a x g 0 acc (by omega), show acc.length - (k + 0 + g.length) = 0 by omega]
    show _ = _ + vl [(a : Rat)] x * _
    rw [vl_cons, vl_nil]
    show _ = _ + ((a : Rat) * x ^ 0 + 0) * _
    grind
  | a :: b :: f, k, acc, _, hl, hg => by
    rw [List.length_cons] at hl
    show vl (toR (outI g (b :: f) (k + 1) (innI k a g 0 acc))) x = _
    rw [outI_vl g x (b :: f) (k + 1) _ (by simp) (by rw [innI_len]; omega) hg, innI_vl k a x g 0 acc (by omega), show acc.length - (k + 0 + g.length) = (b :: f).length by omega]
    show _ = vl (toR acc) x + vl ((a : Rat) :: toR (b :: f)) x * _
    rw [vl_cons, toR_len]
    grind
theorem vl_zeros (x : Rat) : ∀ n : Nat, vl (toR (List.replicate n 0)) x = 0
  | 0 => rfl
  | n + 1 => by
    rw [List.replicate_succ]
    show vl (((0 : Int) : Rat) :: toR (List.replicate n 0)) x = 0
    rw [vl_cons, vl_zeros x n]
    grind
theorem mulI_vl (f g : List Int) (x : Rat) : vl (toR (mulI f g)) x = vl (toR f) x * vl (toR g) x := by
  unfold mulI
  cases f with
  | nil => show (0 : Rat) = vl [] x * _; rw [vl_nil]; grind
  | cons a f =>
    cases g with
    | nil => show (0 : Rat) = _ * vl [] x; rw [vl_nil]; grind
    | cons b g =>
      show vl (toR (outI (b :: g) (a :: f) 0 _)) x = _
      rw [outI_vl _ x _ 0 _ (by simp) (by rw [List.length_replicate]; omega) (by simp), vl_zeros]
      grind
theorem addI_vl (f g : List Int) (x : Rat) : vl (toR (addI f g)) x = vl (toR f) x + vl (toR g) x := by
  have st : ∀ h : List Int, vl (toR (stripI h)) x = vl (toR h) x := by
    intro h
    induction h with
    | nil => rfl
    | cons a h ih =>
      show vl (toR ((a :: h).dropWhile is0)) x = _
      rw [List.dropWhile_cons]
      cases e : is0 a with
      | true =>
        have : a = 0 := by simpa [is0] using e
        subst this
        show vl (toR (stripI h)) x = vl (((0 : Int) : Rat) :: toR h) x
        rw [ih]
        exact (vl_zero _ x).symm
      | false => rfl
  have pd : ∀ (n : Nat) (h : List Int), vl (toR (padI n h)) x = vl (toR h) x := fun n h => by
    unfold padI toR
    rw [List.map_append, List.map_replicate]
    exact vl_pad x _ _
  have zw : ∀ f g : List Int, toR (List.zipWith (· + ·) f g) = List.zipWith (· + ·) (toR f) (toR g) := by
    intro f
    induction f with
    | nil => intro g; simp [toR]
    | cons a f ih =>
      intro g
      cases g with
      | nil => simp [toR]
      | cons b g =>
        show ((a + b : Int) : Rat) :: toR (List.zipWith (· + ·) f g) = ((a : Rat) + (b : Rat)) :: List.zipWith (· + ·) (toR f) (toR g)
        rw [ih g, Rat.intCast_add]
  unfold addI
  rw [st, zw, vl_add, pd, pd]
  rw [toR_len, toR_len]
  unfold padI
  rw [List.length_append, List.length_append, List.length_replicate, List.length_replicate]
  omega
end Pv
namespace Pv
open PySem
section
variable {E : En} {w : W} {o o1 o2 o3 : Option IV} {f g : List Int} {K : Fl → W → Prop} {σ : Sl}
theorem iM_get {acc : List Int} {j : Nat} (h : j < acc.length) : (iM acc)[j]? = some (.int (acc.getD j 0)) := by
  unfold iM
  rw [List.getElem?_map, List.getD_eq_getElem?_getD, List.getElem?_eq_getElem h]
  rfl
theorem iM_set {acc : List Int} {j : Nat} {a : Int} : (iM acc).set j (.int a) = iM (acc.set j a) := by
  unfold iM
  rw [List.map_set]
theorem st_nat {xs : List D} {j : Nat} {v : D} (h : j < xs.length) : stL xs (.int (j : Int)) v = some (xs.set j v) := by
  show (ixN xs.length (j : Int)).map _ = _
  rw [ixN_nat h]; rfl
theorem stix_add {m s2 s3 s5 k p : Nat} {c : Int} {acc : List Int} {e : Ex} (h2 : slot σ s2 = some (.ref m)) (h3 : slot σ s3 = some (.d (.int (k : Int)))) (h5 : slot σ s5 = some (.d (.int (p : Int)))) (hw : w[m]? = some (.lst (iM acc))) (hk : k + p < acc.length)
    (he : ev E e σ w = .ok (.d (.int c)) w) :
    RetS K (evS E (.stix (.var s2) (.bin .Add (.var s3) (.var s5)) (.bin .Add (.sub (.var s2) (.bin .Add (.var s3) (.var s5))) e)) σ w) = K (.next σ) (w.set m (.lst (iM (acc.set (k + p) (acc.getD (k + p) 0 + c))))) := by
  have hs : subD (.list (iM acc)) (.int ((k : Int) + (p : Int))) = some (.int (acc.getD (k + p) 0)) := by
    rw [← Int.natCast_add]
    exact sub_nat (iM_get hk)
  have ht : ∀ v : D, stL (iM acc) (.int ((k : Int) + (p : Int))) v = some ((iM acc).set (k + p) v) := fun v => by
    rw [← Int.natCast_add]
    exact st_nat (by simpa using hk)
  simp only [RetS_stix, Ret_bin, Ret_sub, ev_var, Ret_ofO, h2, h3, h5, OptP_some, rd_d, add_ii, rd_ref, hw, rdC_l, hs, he, Ret_ok, RefP_r, DatP_d, CelP_l, ht, iM_set]
end
theorem last_get {w : W} {c : Cell} : (w ++ [c])[w.length]? = some c := by simp
theorem last_set {w : W} {c c' : Cell} : (w ++ [c]).set w.length c' = w ++ [c'] := by
  rw [List.set_append_right _ _ (Nat.le_refl _), Nat.sub_self]; rfl
def Sm (B : Nat) (f : List Int) : Prop := ∀ a ∈ f, a.natAbs < 2 ^ B
theorem okI_of {B : Nat} {f : List Int} {a : Int} (h : Sm B f) (hB : B ≤ 8000) (ha : a ∈ f) : okI a = true := by
  have := h a ha
  unfold okI
  refine decide_eq_true ?_
  by_cases z : a.natAbs = 0
  · rw [z]; decide
  · have q := (Nat.log2_lt z).mpr this
    omega
section
variable {E : En} {w : W} {o o1 o2 o3 o4 : Option IV} {f g : List Int}
theorem enum_get {f : List Int} {k : Nat} {z : D} (h : (enumD 0 (iM f))[k]? = some z) : ∃ a, f[k]? = some a ∧ z = .tuple [.int (k : Int), .int a] := by
  obtain ⟨e, h1, h2⟩ := enumD_get h
  unfold iM at h1
  rw [List.getElem?_map] at h1
  cases q : f[k]? with
  | none => rw [q] at h1; cases h1
  | some a =>
    rw [q] at h1
    cases h1
    exact ⟨a, rfl, by rw [h2, Nat.zero_add]⟩
theorem rep_zero {n : Nat} : (List.replicate n [PyData.int 0]).flatten = iM (List.replicate n 0) := by
  unfold iM
  rw [List.map_replicate]
  induction n with
  | zero => rfl
  | succ n ih => rw [List.replicate_succ, List.flatten_cons, ih]; rfl
theorem all_ints (f : List Int) : (iM f).all isI = true := List.all_eq_true.mpr fun y hy => by
  obtain ⟨a, _, rfl⟩ := List.mem_map.mp hy
  rfl
theorem ne_unitI {f : List Int} : cmpD .NotEq (iT f) (.tuple []) = some (!f.isEmpty) := by
  show (if okD (.tuple (iM f)) && okD (.tuple []) then some (!PyData.eqv (.tuple (iM f)) (.tuple [])) else none) = _
  rw [okD_ints (all_ints f)]
  cases f <;> simp [iM, PyData.eqv, PyData.eqvAll, okD, PyData.plain, PyData.plainAll, PyData.depth, PyData.depthAll]
theorem eq_unitI {f : List Int} : cmpD .Eq (iT f) (.tuple []) = some f.isEmpty := by
  have := eq_unit (okD_ints (all_ints f))
  rw [show iT f = .tuple (iM f) from rfl, this]
  cases f <;> rfl
theorem times_ok {B C : Nat} (hf : Sm B f) (hg : Sm C g) (hB : B ≤ 8000) (hC : C ≤ 8000) (lf : f.length ≤ 400) (lg : g.length ≤ 400) :
    fin w.length (evS E B_times_of_two [some (.d (iT f)), some (.d (iT g)), o, o1, o2, o3, o4] w) = .ok (.d (iT (mulI f g))) w := by
  refine Ret.eq (X := fun _ _ _ => False) ?_ (fun _ _ _ h => h)
  have ln' : ∀ h : List Int, bltD .len [iT h] = some (.int h.length) := fun h => by show some (PyData.int ((iM h).length : Int)) = _; rw [iM_len]
  have mx : bltD .max [.int 0, .int ((f.length : Int) + g.length - 1)] = some (.int ((f.length + g.length - 1 : Nat) : Int)) := by
    show some (PyData.int (if (f.length : Int) + g.length - 1 > 0 then _ else _)) = _
    congr 2
    split <;> omega
  unfold B_times_of_two
  have okl : ∀ k : Nat, k ≤ 1000 → okL k = true := fun k h => decide_eq_true (by omega)
  simp only [Ret_fin, RetS_cons, evS_asgN, RetS_onE, ev_new, Ret_bind, Ret_bin, Ret_lst, Ret_blt, evA_cons, evA_nil, ev_cst, ev_var, Ret_ok, Ret_ofO, slot_cons0, slot_cons, purs_cons, purs_nil, Option.map_some, OptP_some, List.length_cons, List.length_nil, okl (0 + 1) (by omega), true_and, rdAll_cons, rdAll_nil, rd_d, Option.bind_some, ln', add_ii, sub_ii, mx, mul_li, OptP_if]
  rw [if_pos (by simp; omega)]
  have tn : ((f.length + g.length - 1 : Nat) : Int).toNat = f.length + g.length - 1 := by omega
  simp only [Ret_ok, newW_l, RetS_mk, sq_next, tn, rep_zero]
  obtain ⟨zs, hzs⟩ : ∃ zs : List Int, zs = List.replicate (f.length + g.length - 1) 0 := ⟨_, rfl⟩
  have zl : zs.length = f.length + g.length - 1 := by rw [hzs, List.length_replicate]
  rw [← hzs]
  refine RetS.nx (M := fun σ w' => ∃ x3 x4 x5 x6, w' = w ++ [.lst (iM (outI g f 0 zs))] ∧ σ = [some (.d (iT f)), some (.d (iT g)), some (.ref w.length), x3, x4, x5, x6]) ?_ ?_
  · rw [RetS_for, Ret_enm]
    simp only [ev_var, Ret_ofO, List.set_cons_succ, List.set_cons_zero, slot_cons0, OptP_some, DatP_d, show itemsD (iT f) = some (iM f) from rfl, forP_dat]
    refine ⟨by rw [enumD_len, iM_len]; exact okl _ (by omega), ?_⟩
    refine forL_inv (fun k σ w' => ∃ acc x3 x4 x5 x6, w' = w ++ [.lst (iM acc)] ∧ acc.length = f.length + g.length - 1 ∧ outI g (f.drop k) k acc = outI g f 0 zs ∧ σ = [some (.d (iT f)), some (.d (iT g)), some (.ref w.length), x3, x4, x5, x6]) ⟨zs, _, _, _, _, rfl, zl, rfl, rfl⟩ ?_ ?_
    · rintro k z σ w' hz ⟨acc, x3, x4, x5, x6, rfl, al, he, rfl⟩
      obtain ⟨a, ha, rfl⟩ := enum_get hz
      have hkf : k < f.length := (List.getElem?_eq_some_iff.mp ha).1
      have dr : f.drop k = a :: f.drop (k + 1) := by
        rw [List.drop_eq_getElem_cons hkf]
        congr 1
        rw [List.getElem?_eq_getElem hkf] at ha
        exact Option.some.inj ha
      rw [RetS_body]
      simp only [asg_tup, asgs_cons, asg_nm, asgs_nil, Option.bind_some, OptP_some, List.set_cons_succ, List.set_cons_zero]
      rw [RetS_cons]
      refine RetS.nx (M := fun σ w' => ∃ x5 x6, w' = w ++ [.lst (iM (innI k a g 0 acc))] ∧ σ = [some (.d (iT f)), some (.d (iT g)), some (.ref w.length), some (.d (.int (k : Int))), some (.d (.int a)), x5, x6]) ?_ ?_
      · rw [RetS_for, Ret_enm]
        simp only [ev_var, Ret_ofO, slot_cons0, slot_cons, OptP_some, DatP_d, show itemsD (iT g) = some (iM g) from rfl, forP_dat]
        refine ⟨by rw [enumD_len, iM_len]; exact okl _ (by omega), ?_⟩
        refine forL_inv (fun p σ w' => ∃ ac x5 x6, w' = w ++ [.lst (iM ac)] ∧ ac.length = f.length + g.length - 1 ∧ innI k a (g.drop p) p ac = innI k a g 0 acc ∧ σ = [some (.d (iT f)), some (.d (iT g)), some (.ref w.length), some (.d (.int (k : Int))), some (.d (.int a)), x5, x6]) ⟨acc, _, _, rfl, al, rfl, rfl⟩ ?_ ?_
        · rintro p z σ w' hz ⟨ac, x5, x6, rfl, acl, hi, rfl⟩
          obtain ⟨b, hb, rfl⟩ := enum_get hz
          have hpg : p < g.length := (List.getElem?_eq_some_iff.mp hb).1
          have dg : g.drop p = b :: g.drop (p + 1) := by
            rw [List.drop_eq_getElem_cons hpg]
            congr 1
            rw [List.getElem?_eq_getElem hpg] at hb
            exact Option.some.inj hb
          rw [RetS_body]
          simp only [asg_tup, asgs_cons, asg_nm, asgs_nil, Option.bind_some, OptP_some, List.set_cons_succ, List.set_cons_zero, RetS_cons]
          have oa : okI a = true := okI_of hf hB (List.mem_of_getElem? ha)
          have ob : okI b = true := okI_of hg hC (List.mem_of_getElem? hb)
          rw [stix_add (m := w.length) (k := k) (p := p) (c := a * b) (acc := ac) rfl rfl rfl last_get (by omega) (by
            refine Ret.eq (X := fun _ _ _ => False) ?_ (fun _ _ _ h => h)
            simp [oa, ob]), last_set]
          simp only [sq_next, evS_nil, RetS_mk, loopK_next]
          exact ⟨_, _, _, rfl, by rw [List.length_set]; exact acl, by rw [← hi, dg]; rfl, rfl⟩
        · rintro σ w' ⟨ac, x5, x6, rfl, acl, hi, rfl⟩
          rw [enumD_len, iM_len, List.drop_length] at hi
          exact ⟨x5, x6, by rw [← hi]; rfl, rfl⟩
      · rintro σ w' ⟨x5, x6, rfl, rfl⟩
        exact ⟨_, _, _, _, _, rfl, by rw [innI_len]; exact al, by rw [← he, dr]; rfl, rfl⟩
    · rintro σ w' ⟨acc, x3, x4, x5, x6, rfl, al, he, rfl⟩
      rw [enumD_len, iM_len, List.drop_length] at he
      exact ⟨x3, x4, x5, x6, by rw [← he]; rfl, rfl⟩
  · rintro σ w' ⟨x3, x4, x5, x6, rfl, rfl⟩
    have tt : ∀ h : List Int, bltD .tuple [.list (iM h)] = some (iT h) := fun _ => rfl
    have tk : ∀ c : Cell, (w ++ [c]).take w.length = w := fun c => by rw [List.take_append_of_le_length (Nat.le_refl _), List.take_length]
    have el : okL 0 = true := rfl
    simp [ne_unitI, tt, tk, el]
    unfold mulI
    cases hfe : f.isEmpty with
    | true =>
      have : f = [] := by simpa using hfe
      simp [this]; rfl
    | false =>
      have : f ≠ [] := by intro z; rw [z] at hfe; cases hfe
      simp [this]
      cases hge : g.isEmpty with
      | true =>
        have : g = [] := by simpa using hge
        simp [this]; rfl
      | false =>
        have : g ≠ [] := by intro z; rw [z] at hge; cases hge
        simp [this, hzs]
end
end Pv
namespace Pv
open PySem
section
variable {E : En} {w : W} {o o1 o2 o3 o4 : Option IV} {f g : List Int}
theorem range_get {n k : Nat} {z : D} (h : ((List.range n).map fun (k : Nat) => PyData.int k)[k]? = some z) : k < n ∧ z = .int (k : Int) := by
  have hk : k < n := by
    have := (List.getElem?_eq_some_iff.mp h).1
    simpa using this
  rw [List.getElem?_map, List.getElem?_range hk] at h
  cases h
  exact ⟨hk, rfl⟩
theorem drop_get {f : List Int} {k : Nat} (h : k < f.length) : f.drop k = f.getD k 0 :: f.drop (k + 1) := by
  rw [List.drop_eq_getElem_cons h, List.getD_eq_getElem?_getD, List.getElem?_eq_getElem h]
  rfl
theorem iT_sub {f : List Int} {k : Nat} (h : k < f.length) : subD (iT f) (.int (k : Int)) = some (.int (f.getD k 0)) := tub_nat (iM_get h)
theorem getD_mem {f : List Int} {k : Nat} (h : k < f.length) : f.getD k 0 ∈ f := by
  rw [List.getD_eq_getElem?_getD, List.getElem?_eq_getElem h]
  exact List.getElem_mem h
theorem len_iT {f : List Int} : bltD .len [iT f] = some (.int f.length) := by show some (PyData.int ((iM f).length : Int)) = _; rw [iM_len]
theorem product_ok {B C : Nat} (hf : Sm B f) (hg : Sm C g) (hB : B ≤ 8000) (hC : C ≤ 8000) (lf : f.length ≤ 400) (lg : g.length ≤ 400) :
    fin w.length (evS E B_law_product [some (.d (iT f)), some (.d (iT g)), o, o1, o2] w) = .ok (.d (iT (mulI f g))) w := by
  refine Ret.eq (X := fun _ _ _ => False) ?_ (fun _ _ _ h => h)
  have tt : ∀ h : List Int, bltD .tuple [.list (iM h)] = some (iT h) := fun _ => rfl
  have tk : ∀ c : Cell, (w ++ [c]).take w.length = w := fun c => by rw [List.take_append_of_le_length (Nat.le_refl _), List.take_length]
  have el : okL 0 = true := rfl
  have okl : ∀ k : Nat, k ≤ 1000 → okL k = true := fun k h => decide_eq_true (by omega)
  unfold B_law_product
  cases hfe : f.isEmpty with
  | true =>
    have : mulI f g = [] := by unfold mulI; rw [hfe]; rfl
    simp [eq_unitI, hfe, el, take_len, this]; rfl
  | false =>
  cases hge : g.isEmpty with
  | true =>
    have : mulI f g = [] := by unfold mulI; rw [hge, Bool.or_true]; rfl
    simp [eq_unitI, hfe, hge, el, take_len, this]; rfl
  | false =>
  have nf : f ≠ [] := by intro z; rw [z] at hfe; cases hfe
  have ng : g ≠ [] := by intro z; rw [z] at hge; cases hge
  have pf : 0 < f.length := List.length_pos_iff.mpr nf
  have pg : 0 < g.length := List.length_pos_iff.mpr ng
  have mi : mulI f g = outI g f 0 (List.replicate (f.length + g.length - 1) 0) := by unfold mulI; rw [hfe, hge]; rfl
  rw [mi]
  have m1 : (decide (0 + 1 ≤ 1000) && decide ((f.length : Int) + g.length - 1 ≤ 1000) && decide (-1000 ≤ (f.length : Int) + g.length - 1)) = true := by
    simp only [Bool.and_eq_true, decide_eq_true_eq]
    omega
  simp only [Ret_fin, RetS_cons, RetS_ifs, ev_or, Ret_tst, Ret_cmp, Ret_tup, evA_nil, ev_var, Ret_ofO, slot_cons0, slot_cons, OptP_some, Ret_ok, purs_nil, List.length_nil, el, true_and, cmpV_dd, eq_unitI, hfe, hge, BoolP_b, Bool.false_eq_true, if_false, Ret_if, evS_nil, RetS_mk, sq_next,
    evS_asgN, RetS_onE, ev_new, Ret_bind, Ret_bin, Ret_lst, Ret_blt, evA_cons, ev_cst, purs_cons, Option.map_some, List.length_cons, okl (0 + 1) (by omega), rdAll_cons, rdAll_nil, rd_d, Option.bind_some, len_iT, add_ii, sub_ii, mul_li, OptP_if, m1, if_true]
  have tn : ((f.length : Int) + g.length - 1).toNat = f.length + g.length - 1 := by omega
  simp only [Ret_ok, newW_l, RetS_mk, sq_next, tn, rep_zero]
  obtain ⟨zs, hzs⟩ : ∃ zs : List Int, zs = List.replicate (f.length + g.length - 1) 0 := ⟨_, rfl⟩
  have zl : zs.length = f.length + g.length - 1 := by rw [hzs, List.length_replicate]
  rw [← hzs]
  refine RetS.nx (M := fun σ w' => ∃ x3 x4, w' = w ++ [.lst (iM (outI g f 0 zs))] ∧ σ = [some (.d (iT f)), some (.d (iT g)), some (.ref w.length), x3, x4]) ?_ ?_
  · rw [RetS_for, Ret_rng]
    simp only [evA_cons, evA_nil, Ret_bind, Ret_blt, ev_var, Ret_ofO, List.set_cons_succ, List.set_cons_zero, slot_cons0, OptP_some, Ret_ok, rdAll_cons, rdAll_nil, rd_d, Option.bind_some, Option.map_some, len_iT, purs_cons, purs_nil, rng_nat (n := f.length) (by omega), forP_dat]
    refine ⟨by rw [List.length_map, List.length_range]; exact okl _ (by omega), ?_⟩
    refine forL_inv (fun k σ w' => ∃ acc x3 x4, w' = w ++ [.lst (iM acc)] ∧ acc.length = f.length + g.length - 1 ∧ outI g (f.drop k) k acc = outI g f 0 zs ∧ σ = [some (.d (iT f)), some (.d (iT g)), some (.ref w.length), x3, x4]) ⟨zs, _, _, rfl, zl, rfl, rfl⟩ ?_ ?_
    · rintro k z σ w' hz ⟨acc, x3, x4, rfl, al, he, rfl⟩
      obtain ⟨hkf, rfl⟩ := range_get hz
      rw [RetS_body]
      simp only [asg_nm, OptP_some, List.set_cons_succ, List.set_cons_zero]
      rw [RetS_cons]
      refine RetS.nx (M := fun σ w' => ∃ x4, w' = w ++ [.lst (iM (innI k (f.getD k 0) g 0 acc))] ∧ σ = [some (.d (iT f)), some (.d (iT g)), some (.ref w.length), some (.d (.int (k : Int))), x4]) ?_ ?_
      · rw [RetS_for, Ret_rng]
        simp only [evA_cons, evA_nil, Ret_bind, Ret_blt, ev_var, Ret_ofO, slot_cons0, slot_cons, OptP_some, Ret_ok, rdAll_cons, rdAll_nil, rd_d, Option.bind_some, Option.map_some, len_iT, purs_cons, purs_nil, rng_nat (n := g.length) (by omega), forP_dat]
        refine ⟨by rw [List.length_map, List.length_range]; exact okl _ (by omega), ?_⟩
        refine forL_inv (fun p σ w' => ∃ ac x4, w' = w ++ [.lst (iM ac)] ∧ ac.length = f.length + g.length - 1 ∧ innI k (f.getD k 0) (g.drop p) p ac = innI k (f.getD k 0) g 0 acc ∧ σ = [some (.d (iT f)), some (.d (iT g)), some (.ref w.length), some (.d (.int (k : Int))), x4]) ⟨acc, _, rfl, al, rfl, rfl⟩ ?_ ?_
        · rintro p z σ w' hz ⟨ac, x4, rfl, acl, hi, rfl⟩
          obtain ⟨hpg, rfl⟩ := range_get hz
          rw [RetS_body]
          simp only [asg_nm, OptP_some, List.set_cons_succ, List.set_cons_zero, RetS_cons]
          have oa : okI (f.getD k 0) = true := okI_of hf hB (getD_mem hkf)
          have ob : okI (g.getD p 0) = true := okI_of hg hC (getD_mem hpg)
          rw [stix_add (m := w.length) (k := k) (p := p) (c := f.getD k 0 * g.getD p 0) (acc := ac) rfl rfl rfl last_get (by omega) (by
            refine Ret.eq (X := fun _ _ _ => False) ?_ (fun _ _ _ h => h)
            simp only [Ret_bin, Ret_sub, ev_var, Ret_ofO, slot_cons0, slot_cons, OptP_some, rd_d, iT_sub hkf, iT_sub hpg, mul_ii, oa, ob, Bool.and_self, if_true, and_self]), last_set]
          simp only [sq_next, evS_nil, RetS_mk, loopK_next]
          exact ⟨_, _, rfl, by rw [List.length_set]; exact acl, by rw [← hi, drop_get hpg]; rfl, rfl⟩
        · rintro σ w' ⟨ac, x4, rfl, acl, hi, rfl⟩
          rw [List.length_map, List.length_range, List.drop_length] at hi
          exact ⟨x4, by rw [← hi]; rfl, rfl⟩
      · rintro σ w' ⟨x4, rfl, rfl⟩
        exact ⟨_, _, _, rfl, by rw [innI_len]; exact al, by rw [← he, drop_get hkf]; rfl, rfl⟩
    · rintro σ w' ⟨acc, x3, x4, rfl, al, he, rfl⟩
      rw [List.length_map, List.length_range, List.drop_length] at he
      exact ⟨x3, x4, by rw [← he]; rfl, rfl⟩
  · rintro σ w' ⟨x3, x4, rfl, rfl⟩
    simp [tt, tk]
end
end Pv
namespace Pv
open PySem
def sclI (k : Int) (f : List Int) : List Int := if k = 0 then [] else f.map (k * ·)
section
variable {E : En} {w : W} {o o1 o2 o3 o4 : Option IV} {f g : List Int}
theorem map_int {f : List Int} {h : Int → Int} {F : D → W → R (Option D)} (hF : ∀ a ∈ f, F (.int a) w = .ok (some (.int (h a))) w) : compL F (iM f) w = .ok (iM (f.map h)) w := by
  have e := compL_map (f := F) (w := w) (xs := iM f) (g := fun d => match d with
    | .int a => .int (h a)
    | _ => .none) (fun z hz => by
      obtain ⟨a, ha, rfl⟩ := List.mem_map.mp hz
      exact hF a ha)
  rw [e]
  congr 1
  unfold iM
  rw [List.map_map, List.map_map]
  rfl
theorem scaled_by_ok {B : Nat} {k : Int} (hf : Sm B f) (hB : B ≤ 8000) (hk : okI k = true) (lf : f.length ≤ 1000) :
    fin w.length (evS E B_scaled_by [some (.d (iT f)), some (.d (.int k)), o] w) = .ok (.d (iT (sclI k f))) w := by
  refine Ret.eq (X := fun _ _ _ => False) ?_ (fun _ _ _ h => h)
  have cp : compL (elF (isNil .nil) (.nm 2) (ev E .nil) (ev E (.bin .Mult (.var 1) (.var 2))) (wip [some (.d (iT f)), some (.d (.int k)), o] [2])) (iM f) w = .ok (iM (f.map (k * ·))) w := by
    refine map_int fun a ha => ?_
    refine Ret.eq (X := fun _ _ _ => False) ?_ (fun _ _ _ h => h)
    show Ret _ _ (elF true _ _ _ _ _ _)
    rw [Ret_elT]
    simp [wip, hk, okI_of hf hB ha]
  have it : ∀ w, toIt w (.d (iT f)) = some (.dat (iM f)) := fun _ => rfl
  have tt : ∀ h : List Int, bltD .tuple [.list (iM h)] = some (iT h) := fun _ => rfl
  have okl : okL f.length = true := decide_eq_true (by omega)
  unfold B_scaled_by sclI
  by_cases h0 : k = 0
  · simp [h0, take_len, okL]; rfl
  · simp [h0, it, cp, tt, okl, take_len]
theorem in_zero {a : Int} : cmpD .In (.int a) (.tuple [.int 0, .tuple [.int 0, .int 1]]) = some (a == 0) := by
  show (if okD (.int a) && okD (.tuple [.int 0, .tuple [.int 0, .int 1]]) then some (isIn (.int a) [.int 0, .tuple [.int 0, .int 1]]) else none) = _
  have h : okD (.tuple [.int 0, .tuple [.int 0, .int 1]]) = true := by decide
  rw [okD_int, h]
  have e1 : PyData.eqv (.int 0) (.int a) = (a == 0) := by
    have : PyData.eqv (.int 0) (.int a) = ((0 : Int) == a) := by simp only [PyData.eqv]
    rw [this]
    by_cases e : a = 0
    · rw [e]
    · rw [beq_eq_false_iff_ne.mpr e, beq_eq_false_iff_ne.mpr (Ne.symm e)]
  have e2 : PyData.eqv (.tuple [.int 0, .int 1]) (.int a) = false := by simp [PyData.eqv]
  show some (PyData.eqv (.int 0) (.int a) || (PyData.eqv (.tuple [.int 0, .int 1]) (.int a) || false)) = _
  rw [e1, e2, Bool.or_false, Bool.or_false]
theorem trim_ok {x : D} {xs : List D} {z : D → Bool} (hx : x = .list xs ∨ x = .tuple xs) (hl : xs.length < 16777216) (hq : E.q = 16777216) (hz : ∀ y ∈ xs, cmpD .In y (.tuple [.int 0, .tuple [.int 0, .int 1]]) = some (z y)) :
    fin w.length (evS E B_law_trim [some (.d x), o] w) = .ok (.d (.tuple (xs.dropWhile z))) w := by
  refine Ret.eq (X := fun _ _ _ => False) ?_ (fun _ _ _ h => h)
  have len : bltD .len [x] = some (.int xs.length) := by rcases hx with rfl | rfl <;> rfl
  have sub : ∀ (j : Nat) (y : D), xs[j]? = some y → subD x (.int (j : Int)) = some y := fun j y h => by
    rcases hx with rfl | rfl
    · exact sub_nat h
    · exact tub_nat h
  have ok2 : okL 2 = true := rfl
  unfold B_law_trim
  simp only [Ret_fin, RetS_cons, evS_asgN, RetS_onE, ev_cst, Ret_ok, RetS_mk, sq_next, evS_whl]
  refine RetS.nx (M := fun σ w' => w' = w ∧ ∃ at_ : Nat, σ = [some (.d x), some (.d (.int (at_ : Int)))] ∧ xs.drop at_ = xs.dropWhile z) ?_ ?_
  · refine whlL_inv (fun m σ w' => w' = w ∧ ∃ at_ : Nat, m + at_ = xs.length ∧ σ = [some (.d x), some (.d (.int (at_ : Int)))] ∧ (xs.drop at_).dropWhile z = xs.dropWhile z) (m := xs.length) (by omega) ⟨rfl, 0, rfl, rfl, rfl⟩ ?_
    rintro m σ w' ⟨rfl, at_, hm, rfl, hd⟩
    by_cases hlt : at_ < xs.length
    · have hy := List.getElem?_eq_getElem hlt
      have e := sub at_ _ hy
      have ez := hz xs[at_] (List.getElem_mem hlt)
      have dr : xs.drop at_ = xs[at_] :: xs.drop (at_ + 1) := List.drop_eq_getElem_cons hlt
      have hlt' : (at_ : Int) < (xs.length : Int) := by omega
      simp [len, e, ez, hlt', ok2]
      cases hzz : z xs[at_] with
      | false =>
        simp
        exact ⟨at_, rfl, by rw [← hd, dr, List.dropWhile_cons, hzz]; rfl⟩
      | true =>
        simp
        refine ⟨m - 1, by omega, at_ + 1, by omega, by simp, ?_⟩
        rw [← hd, dr, List.dropWhile_cons, hzz]
        simp
    · have hlt' : ¬ (at_ : Int) < (xs.length : Int) := by omega
      simp [len, hlt']
      exact ⟨at_, rfl, by rw [← hd, List.drop_eq_nil_of_le (by omega)]; rfl⟩
  · rintro σ w' ⟨rfl, at_, rfl, hd⟩
    have hc : slD x (some (at_ : Int)) none = some (match x with
      | .list _ => .list (xs.drop at_)
      | _ => .tuple (xs.drop at_)) := by
      have c : cut xs (some (at_ : Int)) none = xs.drop at_ := cut_from at_
      rcases hx with rfl | rfl <;> (show some _ = _; rw [c])
    rcases hx with rfl | rfl <;> (simp [hc, take_len]; rw [← hd]; rfl)
theorem trim_int {x : D} (hx : x = .list (iM f) ∨ x = iT f) (hl : f.length < 16777216) (hq : E.q = 16777216) :
    fin w.length (evS E B_law_trim [some (.d x), o] w) = .ok (.d (iT (stripI f))) w := by
  have := trim_ok (E := E) (w := w) (o := o) (x := x) (xs := iM f) (z := z0) hx (by simpa using hl) hq (fun y hy => by
    obtain ⟨a, _, rfl⟩ := List.mem_map.mp hy
    rw [in_zero]
    rfl)
  rw [this, drop_int]
  rfl
theorem law_sum_ok {i : Nat} (hf : f.length ≤ 500) (hg : g.length ≤ 500)
    (hs : ∀ (h : List Int) (w : W), h.length ≤ 1000 → E.Φ i [.d (.list (iM h))] w = .ok (.d (iT (stripI h))) w) :
    fin w.length (evS E (B_law_sum i) [some (.d (iT f)), some (.d (iT g)), o, o1, o2, o3, o4] w) = .ok (.d (iT (addI f g))) w := by
  refine Ret.eq (X := fun _ _ _ => False) ?_ (fun _ _ _ h => h)
  have mx : bltD .max [.int (f.length : Int), .int (g.length : Int)] = some (.int ((max f.length g.length : Nat) : Int)) := by
    show some (PyData.int (if (g.length : Int) > f.length then g.length else f.length)) = _
    congr 2
    split <;> omega
  have ll : ∀ h : List Int, bltD .list [iT h] = some (.list (iM h)) := fun _ => rfl
  have ln : ∀ h : List Int, h.length ≤ max f.length g.length → (padI (max f.length g.length) h).length = max f.length g.length := fun h hh => by
    unfold padI
    rw [List.length_append, List.length_replicate]; omega
  have pd : ∀ h : List Int, h.length ≤ max f.length g.length → iM (List.replicate (((max f.length g.length : Nat) : Int) - h.length).toNat 0) ++ iM h = iM (padI (max f.length g.length) h) := fun h hh => by
    have : (((max f.length g.length : Nat) : Int) - h.length).toNat = max f.length g.length - h.length := by omega
    rw [this]
    unfold padI iM
    rw [List.map_append]
  have pf := pd f (by omega)
  have pg := pd g (by omega)
  have sc := sum_comp (E := E) (w := w) (f := padI (max f.length g.length) f) (g := padI (max f.length g.length) g) (x := 5) (y := 6) (σ := wip [some (.d (iT f)), some (.d (iT g)), some (.d (.int ((max f.length g.length : Nat) : Int))), some (.d (.list (iM (padI (max f.length g.length) f)))), some (.d (.list (iM (padI (max f.length g.length) g)))), o3, o4] [5, 6]) (by simp [wip]) (by simp [wip]) (by decide)
  have zl : okL (zipD (iM (padI (max f.length g.length) f)) (iM (padI (max f.length g.length) g))).length = true := by
    rw [zipD_len, iM_len, iM_len, ln f (by omega), ln g (by omega)]
    exact decide_eq_true (by omega)
  have st := hs (List.zipWith (· + ·) (padI (max f.length g.length) f) (padI (max f.length g.length) g)) w (by rw [List.length_zipWith, ln f (by omega), ln g (by omega)]; omega)
  have ok1 : okL 1 = true := rfl
  have c1 : ∀ h : List Int, h.length ≤ max f.length g.length → (decide (1 ≤ 1000) && decide ((((max f.length g.length : Nat) : Int) - h.length) ≤ 1000) && decide (-1000 ≤ (((max f.length g.length : Nat) : Int) - h.length))) = true := fun h hh => by
    simp only [Bool.and_eq_true, decide_eq_true_eq]
    omega
  have okl : ∀ h : List Int, h.length ≤ max f.length g.length → okL ((List.replicate (((max f.length g.length : Nat) : Int) - h.length).toNat (0 : Int)).length + h.length) = true := fun h hh => decide_eq_true (by rw [List.length_replicate]; omega)
  unfold B_law_sum
  simp only [Ret_fin, RetS_cons, evS_asgN, RetS_onE, Ret_blt, evA_cons, evA_nil, Ret_bind, ev_var, Ret_ofO, slot_cons0, slot_cons, OptP_some, rdAll_cons, rdAll_nil, rd_d, Option.bind_some, Option.map_some, len_iT, mx, Ret_ok, RetS_mk, sq_next, evS_par, Ret_bin, Ret_lst, ev_cst, purs_cons, purs_nil, List.length_cons, List.length_nil, Nat.zero_add, ok1, true_and, List.set_cons_succ, List.set_cons_zero, sub_ii, mul_li, c1 f (by omega), c1 g (by omega), if_true, rep_zero, ll, add_ll, iM_len, okl f (by omega), okl g (by omega), pf, pg, RetS_ofS, setAll_cons, setAll_nil, evS_ret, ev_call, Ret_comp, Ret_zp, ZipP_l, compP_dat, zl, sc, st, sq_ret, finK_d, take_len, and_self, and_true]
  rfl
end
end Pv
namespace Pv
open PySem
theorem rat_step {t b a p q : Int} {u : Rat} (hb : 0 < b) (hq : 0 < q) (h : (t : Rat) / (b : Rat) = u) : ((t * p + a * (b * q) : Int) : Rat) / ((b * q : Int) : Rat) = u * ((p : Rat) / (q : Rat)) + (a : Rat) := by
  have hb' : (b : Rat) ≠ 0 := by
    intro z; have : b = 0 := by exact_mod_cast z
    omega
  have hq' : (q : Rat) ≠ 0 := by
    intro z; have : q = 0 := by exact_mod_cast z
    omega
  rw [← h, Rat.intCast_add, Rat.intCast_mul, Rat.intCast_mul, Rat.intCast_mul]
  grind
theorem okI_pow {a : Int} {m : Nat} (h : a.natAbs < 2 ^ m) (hm : m ≤ 50000000) : okI a = true := by
  unfold okI
  refine decide_eq_true ?_
  by_cases z : a.natAbs = 0
  · rw [z]; decide
  · have q := (Nat.log2_lt z).mpr h
    omega
theorem log_pow {n m : Nat} (h : n < 2 ^ m) (hm : 0 < m) : n.log2 < m := by
  by_cases z : n = 0
  · rw [z]; exact hm
  · exact (Nat.log2_lt z).mpr h
theorem toR_snoc {f : List Int} {a : Int} : toR (f ++ [a]) = toR f ++ [(a : Rat)] := by
  unfold toR
  rw [List.map_append]
  rfl
theorem take_snoc {f : List Int} {k : Nat} {a : Int} (h : f[k]? = some a) : f.take (k + 1) = f.take k ++ [a] := by
  rw [List.take_add_one, h]
  rfl
theorem size_step {t b a p q : Int} {B C k : Nat} (ht : t.natAbs ≤ k * 2 ^ (B + C * k)) (hb : b.natAbs ≤ 2 ^ (C * k)) (ha : a.natAbs < 2 ^ B) (hp : p.natAbs < 2 ^ C) (hq : q.natAbs < 2 ^ C) :
    (t * p + a * (b * q)).natAbs ≤ (k + 1) * 2 ^ (B + C * (k + 1)) ∧ (b * q).natAbs ≤ 2 ^ (C * (k + 1)) := by
  have h2 : (b * q).natAbs ≤ 2 ^ (C * (k + 1)) := by
    rw [Int.natAbs_mul, Nat.mul_add, Nat.mul_one, Nat.pow_add]
    exact Nat.mul_le_mul hb (Nat.le_of_lt hq)
  refine ⟨?_, h2⟩
  have h1 : (t * p).natAbs ≤ k * 2 ^ (B + C * (k + 1)) := by
    rw [Int.natAbs_mul, Nat.mul_add, Nat.mul_one, ← Nat.add_assoc, Nat.pow_add _ (B + C * k) C, ← Nat.mul_assoc]
    exact Nat.mul_le_mul ht (Nat.le_of_lt hp)
  have h3 : (a * (b * q)).natAbs ≤ 2 ^ (B + C * (k + 1)) := by
    rw [Int.natAbs_mul, Nat.pow_add]
    exact Nat.mul_le_mul (Nat.le_of_lt ha) h2
  have := Int.natAbs_add_le (t * p) (a * (b * q))
  rw [Nat.add_mul, Nat.one_mul]
  omega
section
variable {E : En} {w : W} {o o1 o2 o3 o4 : Option IV} {f g : List Int}
theorem value_of_ok {B C i : Nat} {r : Rat} (hf : Sm B f) (hp : r.num.natAbs < 2 ^ C) (hq : r.den < 2 ^ C) (lf : f.length ≤ 400) (hB : B ≤ 8000) (hC : C ≤ 8000) (hCl : C * 400 ≤ 1000000)
    (hs : ∀ (t b : Int) (w : W), 0 < b → b.natAbs < 2 ^ (C * f.length + 1) → t.natAbs < 2 ^ (B + C * f.length + 10) → E.Φ i [.d (.int t), .d (.int b)] w = .ok (.d (nD ((t : Rat) / (b : Rat)))) w) :
    fin w.length (evS E (B_value_of i) [some (.d (iT f)), some (.d (nD r)), o, o1, o2, o3] w) = .ok (.d (nD (vl (toR f) r))) w := by
  refine Ret.eq (X := fun _ _ _ => False) ?_ (fun _ _ _ h => h)
  have ok2 : okL 2 = true := rfl
  have hden : 0 < (r.den : Int) := by have := r.den_nz; omega
  have hr : ((r.num : Rat) / ((r.den : Int) : Rat)) = r := by
    rw [← Rat.divInt_eq_div, Rat.num_divInt_den]
  have x0 : subD (nD r) (.int 0) = some (.int r.num) := tub_0
  have x1 : subD (nD r) (.int 1) = some (.int (r.den : Int)) := tub_1
  unfold B_value_of
  simp only [Ret_fin, RetS_cons, RetS_asgT, Ret_tup, evA_cons, evA_nil, ev_cst, Ret_bind, Ret_ok, purs_cons, purs_nil, Option.map_some, OptP_some, List.length_cons, List.length_nil, Nat.zero_add, Nat.reduceAdd, ok2, true_and, DatP_d, asg_tup, asgs_cons, asg_nm, asgs_nil, Option.bind_some, sq_next, List.set_cons_succ, List.set_cons_zero]
  refine RetS.nx (M := fun σ w' => w' = w ∧ ∃ (t b : Int) (x4 x5 : Option IV), σ = [some (.d (iT f)), some (.d (nD r)), some (.d (.int t)), some (.d (.int b)), x4, x5] ∧ 0 < b ∧ (t : Rat) / (b : Rat) = vl (toR f) r ∧ t.natAbs ≤ f.length * 2 ^ (B + C * f.length) ∧ b.natAbs ≤ 2 ^ (C * f.length)) ?_ ?_
  · rw [RetS_for, Ret_enm]
    simp only [ev_var, Ret_ofO, slot_cons0, OptP_some, DatP_d, show itemsD (iT f) = some (iM f) from rfl, forP_dat]
    refine ⟨by rw [enumD_len, iM_len]; exact decide_eq_true (by omega), ?_⟩
    refine forL_inv (fun k σ w' => w' = w ∧ ∃ (t b : Int) (x4 x5 : Option IV), σ = [some (.d (iT f)), some (.d (nD r)), some (.d (.int t)), some (.d (.int b)), x4, x5] ∧ 0 < b ∧ (t : Rat) / (b : Rat) = vl (toR (f.take k)) r ∧ t.natAbs ≤ k * 2 ^ (B + C * k) ∧ b.natAbs ≤ 2 ^ (C * k))
      ⟨rfl, 0, 1, _, _, rfl, by decide, by show ((0 : Int) : Rat) / ((1 : Int) : Rat) = 0; grind, by simp, by simp⟩ ?_ ?_
    · rintro k z σ w' hz ⟨rfl, t, b, x4, x5, rfl, hb0, he, ht, hb⟩
      obtain ⟨a, ha, rfl⟩ := enum_get hz
      have hkf : k < f.length := (List.getElem?_eq_some_iff.mp ha).1
      have ham : a.natAbs < 2 ^ B := hf a (List.mem_of_getElem? ha)
      have hdn : ((r.den : Nat) : Int).natAbs < 2 ^ C := hq
      have hmono : C * k ≤ 1000000 := Nat.le_trans (Nat.mul_le_mul_left C (by omega : k ≤ 400)) hCl
      have oa : okI a = true := okI_pow ham (by omega)
      have op : okI r.num = true := okI_pow hp (by omega)
      have oq : okI (r.den : Int) = true := okI_pow hdn (by omega)
      have ob : okI b = true := okI_pow (m := C * k + 1) (Nat.lt_of_le_of_lt hb (Nat.pow_lt_pow_right (by decide) (Nat.lt_succ_self _))) (by omega)
      have ot : okI t = true := okI_pow (m := B + C * k + 10) (by
        refine Nat.lt_of_le_of_lt ht ?_
        rw [Nat.pow_add _ (B + C * k) 10, Nat.mul_comm]
        exact (Nat.mul_lt_mul_left (Nat.two_pow_pos _)).mpr (by omega)) (by omega)
      rw [RetS_body]
      simp only [asg_tup, asgs_cons, asg_nm, asgs_nil, Option.bind_some, OptP_some, List.set_cons_succ, List.set_cons_zero]
      rw [take_snoc ha, toR_snoc, vl_snoc]
      rcases Nat.eq_zero_or_pos k with k0 | k0
      · subst k0
        have t0 : t = 0 := by
          rw [Nat.zero_mul] at ht; omega
        subst t0
        have z0 : vl (toR (f.take 0)) r = 0 := rfl
        simp [x0, ot, op, oa, okI_small (i := 1) (by decide)]
        refine ⟨_, _, ⟨rfl, rfl⟩, by decide, ?_, ?_, ?_⟩
        · rw [show vl (toR []) r = 0 from rfl]; grind
        · rw [Nat.pow_add]
          have := Nat.mul_le_mul (Nat.le_of_lt ham) (Nat.one_le_two_pow (n := C))
          omega
        · exact Nat.one_le_two_pow
      · have kp : 0 < (k : Int) := by omega
        have s1 := size_step (k := k) ht hb ham hp hdn
        have obq : okI (b * (r.den : Int)) = true := okI_pow (m := C * (k + 1) + 1) (Nat.lt_of_le_of_lt s1.2 (Nat.pow_lt_pow_right (by decide) (Nat.lt_succ_self _))) (by rw [Nat.mul_add]; omega)
        have e2 := rat_step (a := a) (p := r.num) hb0 hden he
        rw [hr] at e2
        simp [kp, k0, x0, x1, ot, op, oa, ob, oq, obq]
        exact ⟨_, _, ⟨rfl, rfl⟩, Int.mul_pos hb0 hden, e2, s1.1, s1.2⟩
    · rintro σ w' ⟨rfl, t, b, x4, x5, rfl, hb0, he, ht, hb⟩
      rw [enumD_len, iM_len] at he ht hb
      rw [List.take_length] at he
      exact ⟨rfl, t, b, x4, x5, rfl, hb0, he, ht, hb⟩
  · rintro σ w' ⟨rfl, t, b, x4, x5, rfl, hb0, he, ht, hb⟩
    have b1 : b.natAbs < 2 ^ (C * f.length + 1) := Nat.lt_of_le_of_lt hb (Nat.pow_lt_pow_right (by decide) (Nat.lt_succ_self _))
    have t1 : t.natAbs < 2 ^ (B + C * f.length + 10) := by
      refine Nat.lt_of_le_of_lt ht ?_
      rw [Nat.pow_add _ (B + C * f.length) 10, Nat.mul_comm]
      exact (Nat.mul_lt_mul_left (Nat.two_pow_pos _)).mpr (by omega)
    simp [hs t b _ hb0 b1 t1, he, take_len]
end
end Pv
namespace Pv
open PySem
theorem pow_abs {p : Int} {C : Nat} (h : p.natAbs < 2 ^ C) (k : Nat) : (p ^ k).natAbs ≤ 2 ^ (C * k) := by
  rw [Int.natAbs_pow, Nat.pow_mul]
  exact Nat.pow_le_pow_left (Nat.le_of_lt h) k
theorem mul_abs {a b : Int} {A B : Nat} (h : a.natAbs ≤ 2 ^ A) (g : b.natAbs ≤ 2 ^ B) : (a * b).natAbs ≤ 2 ^ (A + B) := by
  rw [Int.natAbs_mul, Nat.pow_add]
  exact Nat.mul_le_mul h g
theorem okI_le {a : Int} {m : Nat} (h : a.natAbs ≤ 2 ^ m) (hm : m < 50000000) : okI a = true :=
  okI_pow (m := m + 1) (Nat.lt_of_le_of_lt h (Nat.pow_lt_pow_right (by decide) (Nat.lt_succ_self _))) hm
theorem rq_pow_ne {q : Rat} (h : q ≠ 0) : ∀ n : Nat, q ^ n ≠ 0
  | 0 => by rw [Rat.pow_zero]; decide
  | n + 1 => by
    rw [Rat.pow_succ]
    intro z
    rcases Rat.mul_eq_zero.mp z with y | y
    · exact rq_pow_ne h n y
    · exact h y
theorem rq_pow_add (q : Rat) (m : Nat) : ∀ n : Nat, q ^ (m + n) = q ^ m * q ^ n
  | 0 => by rw [Rat.pow_zero, Nat.add_zero, Rat.mul_one]
  | n + 1 => by rw [← Nat.add_assoc, Rat.pow_succ, rq_pow_add q m n, Rat.pow_succ, Rat.mul_assoc]
theorem rq_mul_pow (a b : Rat) : ∀ n : Nat, (a * b) ^ n = a ^ n * b ^ n
  | 0 => by simp only [Rat.pow_zero, Rat.mul_one]
  | n + 1 => by rw [Rat.pow_succ, rq_mul_pow a b n, Rat.pow_succ, Rat.pow_succ]; grind
def atS (f : List Int) (p q : Int) (n : Nat) : Nat → Int
  | 0 => 0
  | k + 1 => atS f p q n k + f.getD k 0 * p ^ (n - k) * q ^ k
theorem atS_abs {f : List Int} {p q : Int} {B C n : Nat} (hf : Sm B f) (hp : p.natAbs < 2 ^ C) (hq : q.natAbs < 2 ^ C) : ∀ k : Nat, k ≤ f.length → k ≤ n + 1 → (atS f p q n k).natAbs ≤ k * 2 ^ (B + C * n)
  | 0, _, _ => by simp [atS]
  | k + 1, hk, hn => by
    have ih := atS_abs (n := n) hf hp hq k (by omega) (by omega)
    have ha : (f.getD k 0).natAbs ≤ 2 ^ B := Nat.le_of_lt (hf _ (getD_mem (by omega)))
    have h1 := mul_abs (mul_abs ha (pow_abs hp (n - k))) (pow_abs hq k)
    have e : B + C * (n - k) + C * k = B + C * n := by rw [Nat.add_assoc, ← Nat.mul_add]; congr 2; omega
    rw [e] at h1
    unfold atS
    have := Int.natAbs_add_le (atS f p q n k) (f.getD k 0 * p ^ (n - k) * q ^ k)
    rw [Nat.add_mul, Nat.one_mul]
    omega
theorem atS_vl {f : List Int} {p q : Int} {n : Nat} (hq : q ≠ 0) (hn : n + 1 = f.length) : ∀ k : Nat, k ≤ f.length → (atS f p q n k : Rat) / (q : Rat) ^ n = vl (toR (f.take k)) ((p : Rat) / (q : Rat)) * ((p : Rat) / (q : Rat)) ^ (f.length - k)
  | 0, _ => by
    show ((0 : Int) : Rat) / _ = (0 : Rat) * _
    grind
  | k + 1, hk => by
    have ih := atS_vl (p := p) hq hn k (by omega)
    have hq' : (q : Rat) ≠ 0 := by
      intro z; have : q = 0 := by exact_mod_cast z
      omega
    have hg : f[k]? = some (f.getD k 0) := by
      rw [List.getD_eq_getElem?_getD, List.getElem?_eq_getElem (by omega)]; rfl
    rw [take_snoc hg, toR_snoc, vl_snoc]
    unfold atS
    rw [Rat.intCast_add, Rat.intCast_mul, Rat.intCast_mul, Rat.intCast_pow, Rat.intCast_pow]
    have e1 : f.length - k = f.length - (k + 1) + 1 := by omega
    have e2 : n - k = f.length - (k + 1) := by omega
    have e3 : n = f.length - (k + 1) + k := by omega
    rw [e1] at ih
    obtain ⟨m, hm⟩ : ∃ m, m = f.length - (k + 1) := ⟨_, rfl⟩
    rw [← hm] at ih e2 e3 ⊢
    rw [e2]
    have hqm : (q : Rat) ^ m ≠ 0 := rq_pow_ne hq' m
    have hqk : (q : Rat) ^ k ≠ 0 := rq_pow_ne hq' k
    have x2 : (q : Rat) ^ n = (q : Rat) ^ m * (q : Rat) ^ k := by rw [e3, rq_pow_add]
    obtain ⟨u, hu⟩ : ∃ u, u = (p : Rat) / (q : Rat) := ⟨_, rfl⟩
    have hp : (p : Rat) = u * q := by rw [hu]; grind
    rw [← hu] at ih ⊢
    rw [hp, rq_mul_pow, x2]
    rw [x2, rq_pow_add, Rat.pow_succ, Rat.pow_zero] at ih
    grind
section
variable {E : En} {w : W} {o o1 o2 o3 o4 o5 o6 o7 : Option IV} {f g : List Int}
theorem slot_set_ne {σ : Sl} {i j : Nat} {x : Option IV} (h : i ≠ j) : slot (σ.set i x) j = slot σ j := by rw [slot_set, if_neg h]
theorem slot_set_eq {σ : Sl} {i : Nat} {x : Option IV} (h : i < σ.length) : slot (σ.set i x) i = x := by rw [slot_set, if_pos rfl, if_pos h]
theorem mul_loop {σ : Sl} {K : Fl → W → Prop} {it ia ip m : Nat} {a p M : Int} {e : Ex} (n1 : ia ≠ it) (n2 : it ≠ ip) (n3 : ia ≠ ip) (l1 : it < σ.length) (l2 : ia < σ.length) (ha : slot σ ia = some (.d (.int a))) (hp : slot σ ip = some (.d (.int p)))
    (he : ev E e σ w = .ok (.d (.int M)) w) (hM : M = (m : Int)) (hm : m ≤ 1000) (op : okI p = true) (oa : ∀ k, k < m → okI (a * p ^ k) = true)
    (hK : ∀ x, K (.next ((σ.set it x).set ia (some (.d (.int (a * p ^ m)))))) w) :
    RetS K (evS E (.for_ (.nm it) (.rng (.cons e .nil)) (.cons (.asg (.nm ia) (.bin .Mult (.var ia) (.var ip))) .nil)) σ w) := by
  subst hM
  rw [RetS_for, Ret_rng]
  simp only [evA_cons, evA_nil, Ret_bind, he, Ret_ok, purs_cons, purs_nil, Option.map_some, OptP_some, rng_nat (n := m) (by omega), forP_dat]
  refine ⟨by rw [List.length_map, List.length_range]; exact decide_eq_true (by omega), ?_⟩
  refine forL_inv (fun k σ' w' => w' = w ∧ ∃ x, σ' = (σ.set it x).set ia (some (.d (.int (a * p ^ k))))) ⟨rfl, slot σ it, ?_⟩ ?_ ?_
  · rw [show a * p ^ 0 = a by rw [Int.pow_zero, Int.mul_one]]
    unfold slot at ha ⊢
    rw [List.getElem?_eq_getElem l1, List.getElem?_eq_getElem l2] at *
    have ha' : σ[ia] = some (.d (.int a)) := ha
    show σ = (σ.set it σ[it]).set ia _
    rw [List.set_getElem_self, ← ha', List.set_getElem_self]
  · rintro k z σ' w' hz ⟨rfl, x, rfl⟩
    obtain ⟨hkf, rfl⟩ := range_get hz
    rw [RetS_body]
    simp only [asg_nm, OptP_some]
    rw [List.set_comm _ _ n1, List.set_set]
    have s1 : slot ((σ.set it (some (.d (.int (k : Int))))).set ia (some (.d (.int (a * p ^ k))))) ia = some (.d (.int (a * p ^ k))) := slot_set_eq (by rw [List.length_set]; exact l2)
    have s2 : slot ((σ.set it (some (.d (.int (k : Int))))).set ia (some (.d (.int (a * p ^ k))))) ip = some (.d (.int p)) := by rw [slot_set_ne n3, slot_set_ne n2, hp]
    simp only [RetS_cons, evS_asgN, RetS_onE, Ret_bin, ev_var, Ret_ofO, s1, s2, OptP_some, rd_d, mul_ii, oa k hkf, op, Bool.and_self, if_true, Ret_ok, RetS_mk, sq_next, evS_nil, List.set_set]
    exact ⟨rfl, _, by rw [Int.pow_succ, Int.mul_assoc]⟩
  · rintro σ' w' ⟨rfl, x, rfl⟩
    rw [List.length_map, List.length_range]
    exact hK x
theorem law_at_ok {B C i : Nat} {r : Rat} (hf : Sm B f) (hp : r.num.natAbs < 2 ^ C) (hq : r.den < 2 ^ C) (lf : f.length ≤ 400) (hB : B ≤ 8000) (hC : C ≤ 8000) (hCl : C * 400 ≤ 1000000)
    (hs : ∀ (t b : Int) (w : W), 0 < b → b.natAbs < 2 ^ (C * f.length + 1) → t.natAbs < 2 ^ (B + C * f.length + 10) → E.Φ i [.d (.int t), .d (.int b)] w = .ok (.d (nD ((t : Rat) / (b : Rat)))) w) :
    fin w.length (evS E (B_law_at i) [some (.d (iT f)), some (.d (nD r)), o, o1, o2, o3, o4, o5, o6, o7] w) = .ok (.d (nD (vl (toR f) r))) w := by
  refine Ret.eq (X := fun _ _ _ => False) ?_ (fun _ _ _ h => h)
  obtain ⟨p, ep⟩ : ∃ p, p = r.num := ⟨_, rfl⟩
  obtain ⟨q, eq⟩ : ∃ q : Int, q = r.den := ⟨_, rfl⟩
  have q0 : 0 < q := by have := r.den_nz; omega
  have hr : ((p : Rat) / (q : Rat)) = r := by
    rw [ep, eq, ← Rat.divInt_eq_div, Rat.num_divInt_den]
  have x0 : subD (nD r) (.int 0) = some (.int p) := by rw [ep]; exact tub_0
  have x1 : subD (nD r) (.int 1) = some (.int q) := by rw [eq]; exact tub_1
  have hp : p.natAbs < 2 ^ C := by rw [ep]; exact hp
  have hq : q.natAbs < 2 ^ C := by rw [eq]; exact hq
  have okl : ∀ k : Nat, k ≤ 1000 → okL k = true := fun k h => decide_eq_true (by omega)
  obtain ⟨n, en⟩ : ∃ n, n = f.length - 1 := ⟨_, rfl⟩
  have hmono : ∀ k : Nat, k ≤ 400 → C * k ≤ 1000000 := fun k hk => Nat.le_trans (Nat.mul_le_mul_left C hk) hCl
  have op : okI p = true := okI_pow hp (by omega)
  have oq : okI q = true := okI_pow hq (by omega)
  unfold B_law_at
  have mxx : bltD .max [.int 0, .int ((f.length : Int) - 1)] = some (.int ((f.length - 1 : Nat) : Int)) := by
    show some (PyData.int (if ((f.length : Int) - 1) > 0 then ((f.length : Int) - 1) else 0)) = _
    congr 2
    split <;> omega
  simp only [Ret_fin, RetS_cons, RetS_asgT, Ret_tup, evA_cons, evA_nil, ev_cst, ev_var, Ret_sub, Ret_bin, Ret_blt, Ret_ofO, slot_cons, slot_cons0, Ret_bind, Ret_ok, purs_cons, purs_nil, Option.map_some, Option.bind_some, rdAll_cons, rdAll_nil, rd_d, len_iT, x0, x1, sub_ii, OptP_some, List.length_cons, List.length_nil, Nat.zero_add, Nat.reduceAdd, okl 4 (by omega), true_and, DatP_d, asg_tup, asgs_cons, asg_nm, asgs_nil, sq_next, List.set_cons_succ, List.set_cons_zero]
  refine RetS.nx (M := fun σ w' => w' = w ∧ ∃ y2 y4 y9, σ = [some (.d (iT f)), some (.d (nD r)), y2, o1, y4, some (.d (.int p)), some (.d (.int q)), some (.d (.int (atS f p q n f.length))), some (.d (.int ((f.length : Int) - 1))), y9]) ?_ ?_
  · rw [RetS_for, Ret_rng]
    simp only [evA_cons, evA_nil, Ret_bind, Ret_blt, ev_var, Ret_ofO, slot_cons0, OptP_some, Ret_ok, rdAll_cons, rdAll_nil, rd_d, Option.bind_some, Option.map_some, len_iT, purs_cons, purs_nil, rng_nat (n := f.length) (by omega), forP_dat]
    refine ⟨by rw [List.length_map, List.length_range]; exact okl _ (by omega), ?_⟩
    refine forL_inv (fun k σ w' => w' = w ∧ ∃ y2 y4 y9, σ = [some (.d (iT f)), some (.d (nD r)), y2, o1, y4, some (.d (.int p)), some (.d (.int q)), some (.d (.int (atS f p q n k))), some (.d (.int ((f.length : Int) - 1))), y9]) ⟨rfl, _, _, _, rfl⟩ ?_ ?_
    · rintro k z σ w' hz ⟨rfl, y2, y4, y9, rfl⟩
      obtain ⟨hkf, rfl⟩ := range_get hz
      have ha : (f.getD k 0).natAbs ≤ 2 ^ B := Nat.le_of_lt (hf _ (getD_mem hkf))
      have m1 := hmono (n - k) (by omega)
      rw [RetS_body]
      simp only [asg_nm, OptP_some, List.set_cons_succ, List.set_cons_zero, RetS_cons, evS_asgN, RetS_onE, Ret_sub, ev_var, Ret_ofO, slot_cons, slot_cons0, rd_d, iT_sub hkf, Ret_ok, RetS_mk, sq_next]
      refine mul_loop (m := n - k) (a := f.getD k 0) (p := p) (M := ((f.length : Int) - 1) - k) (by decide) (by decide) (by decide) (by simp) (by simp) (by simp) (by simp) ?_ (by omega) (by omega) op ?_ ?_
      · refine Ret.eq (X := fun _ _ _ => False) ?_ (fun _ _ _ h => h)
        simp only [Ret_bin, ev_var, Ret_ofO, slot_cons, slot_cons0, OptP_some, rd_d, sub_ii, Ret_ok, and_self]
      · intro j hj
        exact okI_le (mul_abs ha (pow_abs hp j)) (by have := hmono j (by omega); omega)
      intro x
      simp only [sq_next, RetS_cons, List.set_cons_succ, List.set_cons_zero]
      refine mul_loop (m := k) (a := f.getD k 0 * p ^ (n - k)) (p := q) (M := k) (by decide) (by decide) (by decide) (by simp) (by simp) (by simp) (by simp) ?_ rfl (by omega) oq ?_ ?_
      · rfl
      · intro j hj
        refine okI_le (mul_abs (mul_abs ha (pow_abs hp (n - k))) (pow_abs hq j)) ?_
        have := hmono j (by omega); omega
      intro x'
      simp only [sq_next, RetS_cons, evS_asgN, RetS_onE, Ret_bin, ev_var, Ret_ofO, slot_cons, slot_cons0, OptP_some, rd_d, add_ii, Ret_ok, RetS_mk, evS_nil, List.set_cons_succ, List.set_cons_zero]
      exact ⟨rfl, _, _, _, rfl⟩
    · rintro σ w' ⟨rfl, y2, y4, y9, rfl⟩
      rw [List.length_map, List.length_range]
      exact ⟨rfl, _, _, _, rfl⟩
  · rintro σ w' ⟨rfl, y2, y4, y9, rfl⟩
    simp only [evS_asgN, RetS_onE, ev_cst, Ret_ok, RetS_mk, sq_next, List.set_cons_succ, List.set_cons_zero]
    refine mul_loop (m := n) (a := 1) (p := q) (M := ((f.length - 1 : Nat) : Int)) (by decide) (by decide) (by decide) (by simp) (by simp) (by simp) (by simp) ?_ (by rw [en]) (by omega) oq ?_ ?_
    · refine Ret.eq (X := fun _ _ _ => False) ?_ (fun _ _ _ h => h)
      simp only [Ret_blt, evA_cons, evA_nil, ev_cst, ev_var, Ret_bind, Ret_ofO, Ret_ok, slot_cons, slot_cons0, OptP_some, rdAll_cons, rdAll_nil, rd_d, Option.bind_some, Option.map_some, mxx, and_self]
    · intro j hj
      rw [Int.one_mul]
      exact okI_le (pow_abs hq j) (by have := hmono j (by omega); omega)
    intro x
    have qn : 0 < 1 * q ^ n := by rw [Int.one_mul]; exact Int.pow_pos q0
    have hb : (1 * q ^ n).natAbs < 2 ^ (C * f.length + 1) := by
      rw [Int.one_mul]
      refine Nat.lt_of_le_of_lt (pow_abs hq n) (Nat.pow_lt_pow_right (by decide) ?_)
      have := Nat.mul_le_mul_left C (by omega : n ≤ f.length)
      omega
    have ht : (atS f p q n f.length).natAbs < 2 ^ (B + C * f.length + 10) := by
      refine Nat.lt_of_le_of_lt (atS_abs hf hp hq f.length (Nat.le_refl _) (by omega)) ?_
      have h1 : 2 ^ (B + C * n) ≤ 2 ^ (B + C * f.length) := Nat.pow_le_pow_right (by decide) (by have := Nat.mul_le_mul_left C (by omega : n ≤ f.length); omega)
      rw [Nat.pow_add _ _ 10]
      have h2 := Nat.mul_le_mul (by omega : f.length ≤ 400) h1
      have := Nat.two_pow_pos (B + C * f.length)
      omega
    have hv : ((atS f p q n f.length : Int) : Rat) / ((1 * q ^ n : Int) : Rat) = vl (toR f) r := by
      rw [Int.one_mul, Rat.intCast_pow]
      cases f with
      | nil =>
        have : n = 0 := by rw [en]; rfl
        subst this
        show ((0 : Int) : Rat) / _ = (0 : Rat)
        grind
      | cons c f =>
        rw [atS_vl (by omega) (by rw [en]; simp) _ (Nat.le_refl _), hr, List.take_length, Nat.sub_self, Rat.pow_zero, Rat.mul_one]
    simp only [sq_next, RetS_cons, List.set_cons_succ, List.set_cons_zero, evS_ret, RetS_onE, ev_call, Ret_bind, evA_cons, evA_nil, ev_var, Ret_ofO, slot_cons, slot_cons0, OptP_some, Ret_ok, hs _ _ _ qn hb ht, hv, RetS_mk, sq_ret, finK_d, take_len, and_self]
end
end Pv
namespace Pv
open PySem
def HdI (f : List Int) : Prop := ∀ a, f.head? = some a → a ≠ 0
theorem isPoly_iT {f : List Int} (h : HdI f) : isPoly (iT f) = true := by
  unfold isPoly iT
  show ((iM f).all isI && _) = true
  rw [all_ints, Bool.true_and]
  cases f with
  | nil => rfl
  | cons a r =>
    have : a ≠ 0 := h a rfl
    simpa [iM] using this
theorem HdI_strip (f : List Int) : HdI (stripI f) := by
  unfold stripI
  induction f with
  | nil => intro a h; cases h
  | cons b f ih =>
    rw [List.dropWhile_cons]
    cases hb : is0 b with
    | true => exact ih
    | false =>
      intro a h
      cases h
      intro z; subst z; cases hb
theorem HdI_add (f g : List Int) : HdI (addI f g) := HdI_strip _
theorem HdI_scl {k : Int} {f : List Int} (h : HdI f) : HdI (sclI k f) := by
  unfold sclI
  by_cases z : k = 0
  · rw [if_pos z]; intro a h; cases h
  · rw [if_neg z]
    intro a ha
    cases f with
    | nil => cases ha
    | cons b f =>
      cases ha
      exact Int.mul_ne_zero z (h b rfl)
theorem getD_set {l : List Int} {i j : Nat} {a : Int} : (l.set i a).getD j 0 = if i = j ∧ j < l.length then a else l.getD j 0 := by
  rw [List.getD_eq_getElem?_getD, List.getElem?_set, List.getD_eq_getElem?_getD]
  by_cases h : i = j
  · subst h
    by_cases l1 : i < l.length
    · simp [l1]
    · simp [l1, List.getElem?_eq_none (by omega : l.length ≤ i)]
  · simp [h]
theorem innI_low (k : Nat) (a : Int) : ∀ (g : List Int) (p : Nat) (acc : List Int) (j : Nat), j < k + p → (innI k a g p acc).getD j 0 = acc.getD j 0
  | [], _, _, _, _ => rfl
  | b :: g, p, acc, j, h => by
    show (innI k a g (p + 1) _).getD j 0 = _
    rw [innI_low k a g (p + 1) _ j (by omega), getD_set, if_neg (by omega)]
theorem outI_low (g : List Int) : ∀ (f : List Int) (k : Nat) (acc : List Int) (j : Nat), j < k → (outI g f k acc).getD j 0 = acc.getD j 0
  | [], _, _, _, _ => rfl
  | a :: f, k, acc, j, h => by
    show (outI g f (k + 1) _).getD j 0 = _
    rw [outI_low g f (k + 1) _ j (by omega), innI_low k a g 0 acc j (by omega)]
theorem HdI_mul {f g : List Int} (hf : HdI f) (hg : HdI g) : HdI (mulI f g) := by
  cases f with
  | nil => intro a h; cases h
  | cons x f =>
    cases g with
    | nil => intro a h; cases h
    | cons y g =>
      have e : (mulI (x :: f) (y :: g)).getD 0 0 = x * y := by
        have : mulI (x :: f) (y :: g) = outI (y :: g) f 1 (innI 0 x g 1 ((List.replicate (f.length + 1 + (g.length + 1) - 1) (0 : Int)).set 0 ((List.replicate (f.length + 1 + (g.length + 1) - 1) (0 : Int)).getD 0 0 + x * y))) := rfl
        rw [this, outI_low _ f 1 _ 0 (by omega), innI_low 0 x g 1 _ 0 (by omega), getD_set, if_pos ⟨rfl, by rw [List.length_replicate]; omega⟩]
        rw [show f.length + 1 + (g.length + 1) - 1 = (f.length + g.length) + 1 by omega, List.replicate_succ]
        show (0 : Int) + x * y = x * y
        omega
      intro a h
      have l : mulI (x :: f) (y :: g) = a :: (mulI (x :: f) (y :: g)).tail := by
        cases hm : mulI (x :: f) (y :: g) with
        | nil => rw [hm] at h; cases h
        | cons b r => rw [hm] at h; cases h; rfl
      rw [l] at e
      have e' : a = x * y := e
      rw [e']
      exact Int.mul_ne_zero (hf x rfl) (hg y rfl)
theorem Sm.mono {B C : Nat} {f : List Int} (h : Sm B f) (hBC : B ≤ C) : Sm C f := fun a ha => Nat.lt_of_lt_of_le (h a ha) (Nat.pow_le_pow_right (by decide) hBC)
theorem Sm_strip {B : Nat} {f : List Int} (h : Sm B f) : Sm B (stripI f) := fun a ha => h a (List.Sublist.mem ha (List.dropWhile_sublist _))
theorem Sm_pad {B n : Nat} {f : List Int} (h : Sm B f) : Sm B (padI n f) := fun a ha => by
  unfold padI at ha
  rcases List.mem_append.mp ha with q | q
  · rw [(List.mem_replicate.mp q).2]
    exact Nat.two_pow_pos B
  · exact h a q
theorem Sm_add {B : Nat} {f g : List Int} (hf : Sm B f) (hg : Sm B g) : Sm (B + 1) (addI f g) := by
  refine Sm_strip fun a ha => ?_
  rw [← List.map_uncurry_zip_eq_zipWith] at ha
  obtain ⟨⟨x, y⟩, hxy, rfl⟩ := List.mem_map.mp ha
  have hx := Sm_pad (n := max f.length g.length) hf x (List.of_mem_zip hxy).1
  have hy := Sm_pad (n := max f.length g.length) hg y (List.of_mem_zip hxy).2
  show (x + y).natAbs < _
  rw [Nat.pow_succ]
  omega
theorem strip_len (f : List Int) : (stripI f).length ≤ f.length := (List.dropWhile_sublist _).length_le
theorem add_len (f g : List Int) : (addI f g).length ≤ max f.length g.length := by
  refine Nat.le_trans (strip_len _) ?_
  rw [List.length_zipWith]
  unfold padI
  rw [List.length_append, List.length_append, List.length_replicate, List.length_replicate]
  omega
theorem Sm_scl {B C : Nat} {k : Int} {f : List Int} (hk : k.natAbs < 2 ^ C) (hf : Sm B f) : Sm (C + B) (sclI k f) := by
  unfold sclI
  by_cases z : k = 0
  · rw [if_pos z]; intro a h; cases h
  · rw [if_neg z]
    intro a ha
    obtain ⟨b, hb, rfl⟩ := List.mem_map.mp ha
    rw [Int.natAbs_mul, Nat.pow_add]
    exact Nat.mul_lt_mul'' hk (hf b hb)
theorem scl_len (k : Int) (f : List Int) : (sclI k f).length ≤ f.length := by
  unfold sclI
  split <;> simp
theorem innI_abs {k m P : Nat} {a : Int} : ∀ (g : List Int) (p : Nat) (acc : List Int), (∀ b ∈ g, (a * b).natAbs ≤ P) → (∀ j, (acc.getD j 0).natAbs ≤ m + P) → (∀ j, k + p ≤ j → (acc.getD j 0).natAbs ≤ m) → ∀ j, ((innI k a g p acc).getD j 0).natAbs ≤ m + P
  | [], _, _, _, h1, _, j => h1 j
  | b :: g, p, acc, hg, h1, h2, j => by
    show ((innI k a g (p + 1) _).getD j 0).natAbs ≤ _
    refine innI_abs g (p + 1) _ (fun c hc => hg c (List.mem_cons_of_mem _ hc)) ?_ ?_ j
    · intro j
      rw [getD_set]
      split
      · have := h2 (k + p) (Nat.le_refl _)
        have := hg b List.mem_cons_self
        omega
      · exact h1 j
    · intro j hj
      rw [getD_set, if_neg (by omega)]
      exact h2 j (by omega)
theorem outI_abs {P : Nat} {g : List Int} : ∀ (f : List Int) (k m : Nat) (acc : List Int), (∀ a ∈ f, ∀ b ∈ g, (a * b).natAbs ≤ P) → (∀ j, (acc.getD j 0).natAbs ≤ m) → ∀ j, ((outI g f k acc).getD j 0).natAbs ≤ m + f.length * P
  | [], _, m, _, _, h, j => by
    rw [List.length_nil, Nat.zero_mul, Nat.add_zero]
    exact h j
  | a :: f, k, m, acc, hg, h, j => by
    show ((outI g f (k + 1) _).getD j 0).natAbs ≤ _
    have := outI_abs f (k + 1) (m + P) (innI k a g 0 acc) (fun c hc => hg c (List.mem_cons_of_mem _ hc)) (innI_abs g 0 acc (hg a List.mem_cons_self) (fun j => Nat.le_trans (h j) (Nat.le_add_right _ _)) (fun j _ => h j)) j
    rw [List.length_cons, Nat.add_mul, Nat.one_mul]
    omega
theorem Sm_mul {B C : Nat} {f g : List Int} (hf : Sm B f) (hg : Sm C g) (lf : f.length ≤ 400) : Sm (B + C + 9) (mulI f g) := by
  unfold mulI
  split
  · intro a h; cases h
  · intro a ha
    obtain ⟨j, hj, rfl⟩ := List.getElem_of_mem ha
    have q := outI_abs (P := 2 ^ (B + C)) (g := g) f 0 0 (List.replicate (f.length + g.length - 1) 0) (fun a ha b hb => by
      rw [Int.natAbs_mul, Nat.pow_add]
      exact Nat.mul_le_mul (Nat.le_of_lt (hf a ha)) (Nat.le_of_lt (hg b hb))) (fun j => by
      rw [List.getD_eq_getElem?_getD, List.getElem?_replicate]
      split <;> simp) j
    rw [List.getD_eq_getElem?_getD, List.getElem?_eq_getElem hj] at q
    have q' : (outI g f 0 (List.replicate (f.length + g.length - 1) 0))[j].natAbs ≤ 0 + f.length * 2 ^ (B + C) := q
    have := Nat.mul_le_mul_right (2 ^ (B + C)) lf
    have p := Nat.two_pow_pos (B + C)
    rw [Nat.pow_add _ _ 9]
    omega
theorem mul_len (f g : List Int) : (mulI f g).length ≤ f.length + g.length - 1 := by
  unfold mulI
  split
  · exact Nat.zero_le _
  · rw [outI_len, List.length_replicate]; exact Nat.le_refl _
def powI (f : List Int) : Nat → List Int
  | 0 => [1]
  | n + 1 => mulI (powI f n) f
theorem pow_len (f : List Int) : ∀ n : Nat, (powI f n).length ≤ 1 + n * f.length
  | 0 => by simp [powI]
  | n + 1 => by
    have := pow_len f n
    have := mul_len (powI f n) f
    show (mulI (powI f n) f).length ≤ _
    rw [Nat.add_mul, Nat.one_mul]
    omega
theorem Sm_pow {B : Nat} {f : List Int} (hf : Sm B f) : ∀ n : Nat, 1 + n * f.length ≤ 400 → Sm (1 + n * (B + 9)) (powI f n)
  | 0, _ => fun a h => by
    have : a = 1 := List.mem_singleton.mp h
    subst this
    rw [Nat.zero_mul]
    decide
  | n + 1, h => by
    have h' : 1 + n * f.length ≤ 400 := by rw [Nat.add_mul] at h; omega
    refine (Sm_mul (Sm_pow hf n h') hf (Nat.le_trans (pow_len f n) h')).mono ?_
    rw [Nat.add_mul]; omega
theorem sclI_vl (k : Int) (f : List Int) (x : Rat) : vl (toR (sclI k f)) x = (k : Rat) * vl (toR f) x := by
  unfold sclI
  by_cases z : k = 0
  · subst z
    rw [if_pos rfl]
    show (0 : Rat) = ((0 : Int) : Rat) * _
    grind
  · rw [if_neg z, ← vl_scale]
    congr 1
    unfold toR
    rw [List.map_map, List.map_map]
    congr 1
    funext a
    exact Rat.intCast_mul k a
end Pv
namespace Pv
open PySem
def Bd (A : Nat) (r : Rat) : Prop := r.num.natAbs < 2 ^ A ∧ r.den < 2 ^ A
theorem lt_mul {a b : Int} {A B : Nat} (h : a.natAbs < 2 ^ A) (g : b.natAbs < 2 ^ B) : (a * b).natAbs < 2 ^ (A + B) := by
  rw [Int.natAbs_mul, Nat.pow_add]
  exact Nat.mul_lt_mul'' h g
theorem den_pos (r : Rat) : 0 < (r.den : Int) := by have := r.den_nz; omega
theorem rat_nd (r : Rat) : r = (r.num : Rat) / ((r.den : Int) : Rat) := by
  rw [← Rat.divInt_eq_div, Rat.num_divInt_den]
theorem rat_plus (r s : Rat) : ((r.num * (s.den : Int) + s.num * (r.den : Int) : Int) : Rat) / (((r.den : Int) * (s.den : Int) : Int) : Rat) = r + s := by
  have h1 : ((r.den : Int) : Rat) ≠ 0 := by
    intro z; have : (r.den : Int) = 0 := by exact_mod_cast z
    have := den_pos r; omega
  have h2 : ((s.den : Int) : Rat) ≠ 0 := by
    intro z; have : (s.den : Int) = 0 := by exact_mod_cast z
    have := den_pos s; omega
  have e1 := rat_nd r
  have e2 := rat_nd s
  rw [Rat.intCast_add, Rat.intCast_mul, Rat.intCast_mul, Rat.intCast_mul]
  generalize ((r.den : Int) : Rat) = p at *
  generalize ((s.den : Int) : Rat) = q at *
  generalize (r.num : Rat) = a at *
  generalize (s.num : Rat) = b at *
  subst e1 e2
  grind
theorem rat_times (r s : Rat) : ((r.num * s.num : Int) : Rat) / (((r.den : Int) * (s.den : Int) : Int) : Rat) = r * s := by
  have h1 : ((r.den : Int) : Rat) ≠ 0 := by
    intro z; have : (r.den : Int) = 0 := by exact_mod_cast z
    have := den_pos r; omega
  have h2 : ((s.den : Int) : Rat) ≠ 0 := by
    intro z; have : (s.den : Int) = 0 := by exact_mod_cast z
    have := den_pos s; omega
  have e1 := rat_nd r
  have e2 := rat_nd s
  rw [Rat.intCast_mul, Rat.intCast_mul]
  generalize ((r.den : Int) : Rat) = p at *
  generalize ((s.den : Int) : Rat) = q at *
  generalize (r.num : Rat) = a at *
  generalize (s.num : Rat) = b at *
  subst e1 e2
  grind
section
variable {E : En} {w : W} {o o1 o2 o3 o4 : Option IV} {f g : List Int} {i j k : Nat}
theorem law_plus_ok {A B : Nat} {r s : Rat} (hr : Bd A r) (hs : Bd B s) (hA : A ≤ 1000000) (hB : B ≤ 1000000)
    (hl : ∀ (t b : Int) (w : W), 0 < b → b.natAbs < 2 ^ (A + B) → t.natAbs < 2 ^ (A + B + 1) → E.Φ i [.d (.int t), .d (.int b)] w = .ok (.d (nD ((t : Rat) / (b : Rat)))) w) :
    fin w.length (evS E (B_law_plus i) [some (.d (nD r)), some (.d (nD s))] w) = .ok (.d (nD (r + s))) w := by
  refine Ret.eq (X := fun _ _ _ => False) ?_ (fun _ _ _ h => h)
  have x0 : ∀ r : Rat, subD (nD r) (.int 0) = some (.int r.num) := fun _ => tub_0
  have x1 : ∀ r : Rat, subD (nD r) (.int 1) = some (.int (r.den : Int)) := fun _ => tub_1
  have o1 : okI r.num = true := okI_pow hr.1 (by omega)
  have o2 : okI s.num = true := okI_pow hs.1 (by omega)
  have o3 : okI (r.den : Int) = true := okI_pow (m := A) hr.2 (by omega)
  have o4 : okI (s.den : Int) = true := okI_pow (m := B) hs.2 (by omega)
  have h1 := lt_mul (b := (s.den : Int)) hr.1 (B := B) hs.2
  have h2 := lt_mul (b := (r.den : Int)) hs.1 (B := A) hr.2
  have h3 := lt_mul (a := (r.den : Int)) (b := (s.den : Int)) (A := A) (B := B) hr.2 hs.2
  rw [Nat.add_comm B A] at h2
  have e := hl (r.num * (s.den : Int) + s.num * (r.den : Int)) ((r.den : Int) * (s.den : Int)) w (Int.mul_pos (den_pos r) (den_pos s)) h3 (by
    have := Int.natAbs_add_le (r.num * (s.den : Int)) (s.num * (r.den : Int))
    rw [Nat.pow_succ]; omega)
  rw [rat_plus] at e
  unfold B_law_plus
  simp [x0, x1, o1, o2, o3, o4, e, take_len]
theorem law_times_ok {A B : Nat} {r s : Rat} (hr : Bd A r) (hs : Bd B s) (hA : A ≤ 1000000) (hB : B ≤ 1000000)
    (hl : ∀ (t b : Int) (w : W), 0 < b → b.natAbs < 2 ^ (A + B) → t.natAbs < 2 ^ (A + B + 1) → E.Φ i [.d (.int t), .d (.int b)] w = .ok (.d (nD ((t : Rat) / (b : Rat)))) w) :
    fin w.length (evS E (B_law_times i) [some (.d (nD r)), some (.d (nD s))] w) = .ok (.d (nD (r * s))) w := by
  refine Ret.eq (X := fun _ _ _ => False) ?_ (fun _ _ _ h => h)
  have x0 : ∀ r : Rat, subD (nD r) (.int 0) = some (.int r.num) := fun _ => tub_0
  have x1 : ∀ r : Rat, subD (nD r) (.int 1) = some (.int (r.den : Int)) := fun _ => tub_1
  have o1 : okI r.num = true := okI_pow hr.1 (by omega)
  have o2 : okI s.num = true := okI_pow hs.1 (by omega)
  have o3 : okI (r.den : Int) = true := okI_pow (m := A) hr.2 (by omega)
  have o4 : okI (s.den : Int) = true := okI_pow (m := B) hs.2 (by omega)
  have h1 := lt_mul hr.1 hs.1
  have h3 := lt_mul (a := (r.den : Int)) (b := (s.den : Int)) (A := A) (B := B) hr.2 hs.2
  have e := hl (r.num * s.num) ((r.den : Int) * (s.den : Int)) w (Int.mul_pos (den_pos r) (den_pos s)) h3 (by
    rw [Nat.pow_succ]; omega)
  rw [rat_times] at e
  unfold B_law_times
  simp [x0, x1, o1, o2, o3, o4, e, take_len]
theorem check_one_ok {x : D} (h : E.Φ i [.d x] w = .ok (.d (.bool true)) w) : fin w.length (evS E (B_check_polynomial i) [some (.d x)] w) = .ok (.d .none) w := by
  refine Ret.eq (X := fun _ _ _ => False) ?_ (fun _ _ _ h => h)
  unfold B_check_polynomial
  simp [h, take_len]
theorem check_number_ok {x : D} (h : E.Φ i [.d x] w = .ok (.d (.bool true)) w) : fin w.length (evS E (B_check_number i) [some (.d x)] w) = .ok (.d .none) w := by
  refine Ret.eq (X := fun _ _ _ => False) ?_ (fun _ _ _ h => h)
  unfold B_check_number
  simp [h, take_len]
theorem check_integer_ok {a : Int} {x : D} (hx : x = .none ∨ ∃ l : Int, x = .int l ∧ l ≤ a) (h : E.Φ i [.d (.int a)] w = .ok (.d (.bool true)) w) : fin w.length (evS E (B_check_integer i) [some (.d (.int a)), some (.d x)] w) = .ok (.d .none) w := by
  refine Ret.eq (X := fun _ _ _ => False) ?_ (fun _ _ _ h => h)
  unfold B_check_integer
  rcases hx with rfl | ⟨l, rfl, hl⟩
  · have nn : isNone PyData.none = true := rfl
    simp [h, take_len, nn]
  · have : ¬ a < l := by omega
    simp [h, this, take_len]
theorem value_ok {x y v : D} (h1 : E.Φ i [.d x] w = .ok (.d .none) w) (h2 : E.Φ j [.d y] w = .ok (.d .none) w) (h3 : E.Φ k [.d x, .d y] w = .ok (.d v) w) : fin w.length (evS E (B_value i j k) [some (.d x), some (.d y)] w) = .ok (.d v) w := by
  refine Ret.eq (X := fun _ _ _ => False) ?_ (fun _ _ _ h => h)
  unfold B_value
  simp [h1, h2, h3, take_len]
theorem plus_ok {x y v : D} (h1 : E.Φ i [.d x] w = .ok (.d .none) w) (h2 : E.Φ i [.d y] w = .ok (.d .none) w) (h3 : E.Φ k [.d x, .d y] w = .ok (.d v) w) : fin w.length (evS E (B_plus i k) [some (.d x), some (.d y)] w) = .ok (.d v) w := by
  refine Ret.eq (X := fun _ _ _ => False) ?_ (fun _ _ _ h => h)
  unfold B_plus
  simp [h1, h2, h3, take_len]
theorem timesP_ok {x y v : D} (h1 : E.Φ i [.d x] w = .ok (.d .none) w) (h2 : E.Φ i [.d y] w = .ok (.d .none) w) (h3 : E.Φ k [.d x, .d y] w = .ok (.d v) w) : fin w.length (evS E (B_times i k) [some (.d x), some (.d y)] w) = .ok (.d v) w := by
  refine Ret.eq (X := fun _ _ _ => False) ?_ (fun _ _ _ h => h)
  unfold B_times
  simp [h1, h2, h3, take_len]
theorem scaled_ok {x y v : D} (h1 : E.Φ i [.d x] w = .ok (.d .none) w) (h2 : E.Φ j [.d y, .d .none] w = .ok (.d .none) w) (h3 : E.Φ k [.d x, .d y] w = .ok (.d v) w) : fin w.length (evS E (B_scaled i j k) [some (.d x), some (.d y)] w) = .ok (.d v) w := by
  refine Ret.eq (X := fun _ _ _ => False) ?_ (fun _ _ _ h => h)
  unfold B_scaled
  simp [h1, h2, h3, take_len]
theorem power_ok {n : Nat} (hn : n ≤ 6) (h1 : E.Φ i [.d (iT f)] w = .ok (.d .none) w) (h2 : E.Φ j [.d (.int (n : Int)), .d (.int 0)] w = .ok (.d .none) w)
    (h3 : ∀ m, m < n → E.Φ k [.d (iT (powI f m)), .d (iT f)] w = .ok (.d (iT (powI f (m + 1)))) w) : fin w.length (evS E (B_power i j k) [some (.d (iT f)), some (.d (.int (n : Int))), o, o1] w) = .ok (.d (iT (powI f n))) w := by
  refine Ret.eq (X := fun _ _ _ => False) ?_ (fun _ _ _ h => h)
  have c1 : ¬ (6 : Int) < (n : Int) := by omega
  have ok1 : okL 1 = true := rfl
  unfold B_power
  simp [h1, h2, c1, ok1, rng_nat (n := n) (by omega)]
  refine ⟨decide_eq_true (by omega), ?_⟩
  refine RetS.nx (M := fun σ w' => w' = w ∧ slot σ 2 = some (.d (iT (powI f n)))) ?_ ?_
  · refine forL_inv (fun m σ w' => w' = w ∧ ∃ x, σ = [some (.d (iT f)), some (.d (.int (n : Int))), some (.d (iT (powI f m))), x]) ⟨rfl, _, rfl⟩ ?_ ?_
    · rintro m z σ w' hz ⟨rfl, x, rfl⟩
      obtain ⟨hm, rfl⟩ := range_get hz
      simp [h3 m hm]
    · rintro σ w' ⟨rfl, x, rfl⟩
      rw [List.length_map, List.length_range]
      exact ⟨rfl, rfl⟩
  · rintro σ w' ⟨rfl, e⟩
    simp [e, take_len]
end
end Pv
namespace Pv
open PySem
def TakeP (E : En) (i : Nat) : Prop := ∀ {w : W} {n : Nat} {pot : List D} {many : Int} {X : Nat → D → W → Prop}, w[n]? = some (.lst pot) → PotOk pot → 0 < many → many.natAbs.log2 < 9000 →
  Ret (fun v w' => ∃ r pot', v = .d (.int r) ∧ 0 ≤ r ∧ r < many ∧ PotOk pot' ∧ w' = w.set n (.lst pot')) X (E.Φ i [.ref n, .d (.int many)] w)
theorem log_small {i : Int} {k : Nat} (h : i.natAbs < 2 ^ k) (hk : k ≤ 9000) (h0 : 0 < k) : i.natAbs.log2 < 9000 := Nat.lt_of_lt_of_le (log_pow h h0) hk
theorem set_get {w : W} {n : Nat} {c : Cell} {p : List D} (hw : w[n]? = some (.lst p)) : (w.set n c)[n]? = some c := List.getElem?_set_self (List.getElem?_eq_some_iff.mp hw).1
theorem set_take {w : W} {n : Nat} {c : Cell} : (w.set n c).take w.length = w.set n c := List.take_of_length_le (by simp)
section
variable {E : En} {w : W} {X : Nat → D → W → Prop} {o o1 o2 o3 o4 : Option IV} {f g : List Int} {i j k n : Nat} {pot : List D}
theorem law_drawn_ok {far : Int} (hf : 1 ≤ far) (hf2 : far < 2 ^ 1000) (hw : w[n]? = some (.lst pot)) (hp : PotOk pot) (ht : TakeP E j)
    (hl : ∀ (t b : Int) (w : W), 0 < b → b.natAbs < 2 ^ 1001 → t.natAbs < 2 ^ 1001 → E.Φ i [.d (.int t), .d (.int b)] w = .ok (.d (nD ((t : Rat) / (b : Rat)))) w) :
    Ret (fun v w' => ∃ (t b : Int) (pot' : List D), v = .d (nD ((t : Rat) / (b : Rat))) ∧ 0 < b ∧ (b ≤ far ∨ b ≤ 4) ∧ t.natAbs ≤ far ∧ PotOk pot' ∧ w' = w.set n (.lst pot')) X (fin w.length (evS E (B_law_drawn i j) [some (.ref n), some (.d (.int far))] w)) := by
  have of : okI far = true := okI_pow (m := 1000) (by omega) (by decide)
  have o2 : okI 2 = true := okI_small (by decide)
  unfold B_law_drawn
  simp [of, o2]
  refine Ret.imp (ht hw hp (by omega) (log_small (k := 1002) (by omega) (by decide) (by decide))) ?_
  rintro v w1 ⟨r, pot1, rfl, r0, r1, hp1, rfl⟩
  have hw1 := set_get (c := Cell.lst pot1) hw
  simp
  refine ⟨rfl, Ret.imp (ht hw1 hp1 (by decide) (by decide)) ?_⟩
  rintro v w2 ⟨q, pot2, rfl, q0, q1, hp2, rfl⟩
  rw [List.set_set]
  have hw2 := set_get (c := Cell.lst pot2) hw
  have go : ∀ m : Int, 1 ≤ m → (m ≤ far ∨ m ≤ 4) → Ret (fun v w2 => OptP (rd w2 v) fun y => OptP (binD Operator.Add (PyData.int 1) y) fun z => Ret (fun a w_1 => finK (List.length w) (fun v w' => ∃ t b : Int, v = IV.d (nD ((t : Rat) / (b : Rat))) ∧ 0 < b ∧ (b ≤ far ∨ b ≤ 4) ∧ ↑t.natAbs ≤ far ∧ ∃ x, PotOk x ∧ w' = List.set w n (Cell.lst x)) X (Fl.ret a) w_1)
      (fun c x w_1 => X c x (List.take (List.length w) w_1)) (E.Φ i [IV.d (PyData.int (r - far)), IV.d z] w2)) (fun c x w_1 => X c x (List.take (List.length w) w_1)) (E.Φ j [IV.ref n, IV.d (.int m)] (w.set n (.lst pot2))) := by
    intro m m1 m2
    have mb : m.natAbs < 2 ^ 1000 := by rcases m2 with h | h <;> omega
    refine Ret.imp (ht hw2 hp2 (by omega) (log_small (k := 1002) (by omega) (by decide) (by decide))) ?_
    rintro v w3 ⟨u, pot3, rfl, u0, u1, hp3, rfl⟩
    rw [List.set_set]
    have e := hl (r - far) (1 + u) (w.set n (.lst pot3)) (by omega) (by omega) (by omega)
    simp [e, set_take]
    exact ⟨r - far, 1 + u, by rw [Rat.intCast_sub, Rat.intCast_add]; rfl, by omega, by rcases m2 with h | h <;> omega, by omega, _, hp3, rfl⟩
  have : q = 0 ∨ q = 1 ∨ q = 2 := by omega
  rcases this with rfl | rfl | rfl
  · exact go 1 (by decide) (.inr (by decide))
  · exact go 4 (by decide) (.inr (by decide))
  · exact go far hf (.inl (Int.le_refl _))
theorem law_polynomial_ok {most far : Int} (hm : 0 ≤ most) (hm2 : most ≤ 300) (hf : 1 ≤ far) (hf2 : far < 2 ^ 1000) (hw : w[n]? = some (.lst pot)) (hp : PotOk pot) (ht : TakeP E i)
    (hl : ∀ (h : List Int) (w : W), h.length ≤ 1000 → E.Φ j [.d (.list (iM h))] w = .ok (.d (iT (stripI h))) w) :
    Ret (fun v w' => ∃ (f : List Int) (pot' : List D), v = .d (iT f) ∧ (f.length : Int) ≤ most + 1 ∧ (∀ a ∈ f, (a.natAbs : Int) ≤ far) ∧ HdI f ∧ PotOk pot' ∧ w' = w.set n (.lst pot')) X (fin w.length (evS E (B_law_polynomial i j) [some (.ref n), some (.d (.int most)), some (.d (.int far)), o, o1, o2] w)) := by
  have of : okI far = true := okI_pow (m := 1000) (by omega) (by decide)
  have o2' : okI 2 = true := okI_small (by decide)
  unfold B_law_polynomial
  simp
  refine Ret.imp (ht hw hp (by decide) (by decide)) ?_
  rintro v w1 ⟨r, pot1, rfl, r0, r1, hp1, rfl⟩
  have hw1 := set_get (c := Cell.lst pot1) hw
  simp
  by_cases z : r = 0
  · have ok0 : okL 0 = true := rfl
    simp [z, ok0, set_take]
    exact ⟨[], rfl, by simp; omega, by simp, by nofun, _, hp1, rfl⟩
  simp [z]
  refine Ret.imp (ht hw1 hp1 (by omega) (log_small (k := 100) (by omega) (by decide) (by decide))) ?_
  rintro v w2 ⟨m, pot2, rfl, m0, m1, hp2, rfl⟩
  rw [List.set_set]
  obtain ⟨M, hM⟩ : ∃ M : Nat, 1 + m = (M : Int) := ⟨(1 + m).toNat, by omega⟩
  simp [hM, rng_nat (n := M) (by omega)]
  have okl : ∀ k : Nat, k ≤ 1000 → okL k = true := fun k h => decide_eq_true (by omega)
  refine ⟨okl _ (by omega), ?_⟩
  refine compL_inv (fun k ys w' => ∃ f pot', ys = iM f ∧ f.length = k ∧ (∀ a ∈ f, (a.natAbs : Int) ≤ far) ∧ PotOk pot' ∧ w' = w.set n (.lst pot')) ⟨[], pot2, rfl, rfl, by simp, hp2, rfl⟩ ?_ ?_
  · rintro k z ys w' hz ⟨f, pot', rfl, hk, hf', hp', rfl⟩
    have hw' := set_get (c := Cell.lst pot') hw
    show Ret _ _ (elF true _ _ _ _ _ _)
    rw [Ret_elT]
    simp [wip, of, o2']
    refine Ret.imp (ht hw' hp' (by omega) (log_small (k := 1002) (by omega) (by decide) (by decide))) ?_
    rintro v w3 ⟨u, pot3, rfl, u0, u1, hp3, rfl⟩
    simp
    exact ⟨f ++ [u - far], by simp [iM], by simp [hk], fun a ha => by
      rcases List.mem_append.mp ha with q | q
      · exact hf' a q
      · rw [List.mem_singleton.mp q]; omega, _, hp3, rfl⟩
  rintro ys w' ⟨f, pot', rfl, hk, hf', hp', rfl⟩
  rw [List.length_map, List.length_range] at hk
  refine ⟨okl _ (by rw [iM_len]; omega), ?_⟩
  refine compL_inv (fun k ys w' => ∃ g pot', ys = iM g ∧ g.length = k ∧ (∀ a ∈ g, (a.natAbs : Int) ≤ far) ∧ PotOk pot' ∧ w' = w.set n (.lst pot')) ⟨[], pot', rfl, rfl, by simp, hp', rfl⟩ ?_ ?_
  · rintro k z ys w' hz ⟨g, pot', rfl, hk, hg', hp', rfl⟩
    have hw' := set_get (c := Cell.lst pot') hw
    obtain ⟨b, hb, rfl⟩ : ∃ b, b ∈ f ∧ z = .int b := by
      obtain ⟨b, hb, e⟩ := List.mem_map.mp (List.mem_of_getElem? hz)
      exact ⟨b, hb, e.symm⟩
    show Ret _ _ (elF true _ _ _ _ _ _)
    rw [Ret_elT]
    simp [wip]
    refine Ret.imp (ht hw' hp' (by decide) (by decide)) ?_
    rintro v w3 ⟨u, pot3, rfl, u0, u1, hp3, rfl⟩
    have app : ∀ c : Int, (c.natAbs : Int) ≤ far → ∃ f, iM g ++ [PyData.int c] = iM f ∧ f.length = k + 1 ∧ (∀ a ∈ f, (a.natAbs : Int) ≤ far) ∧ ∃ x, PotOk x ∧ w.set n (.lst pot3) = w.set n (.lst x) := fun c hc =>
      ⟨g ++ [c], by simp [iM], by simp [hk], fun a ha => by
        rcases List.mem_append.mp ha with q | q
        · exact hg' a q
        · rw [List.mem_singleton.mp q]; exact hc, _, hp3, rfl⟩
    by_cases u0 : 0 < u
    · simp [u0]
      exact app b (hf' b hb)
    · simp [u0]
      exact app 0 (by simp; omega)
  rintro ys w' ⟨g, pot4, rfl, hg, hg', hp4, rfl⟩
  rw [iM_len] at hg
  have hw4 := set_get (c := Cell.lst pot4) hw
  have e1 := hl g (w.set n (.lst pot4)) (by omega)
  simp [e1, okl, eq_unitI, ne_unitI]
  by_cases he : stripI g = []
  · simp [he]
    refine Ret.imp (ht hw4 hp4 (by omega) (log_small (k := 1001) (by omega) (by decide) (by decide))) ?_
    rintro v w3 ⟨u, pot5, rfl, u0, u1, hp5, rfl⟩
    rw [List.set_set]
    simp [set_take]
    exact ⟨[1 + u], rfl, by simp; omega, by simp; omega, by intro a ha; cases ha; omega, _, hp5, rfl⟩
  · simp [he, set_take]
    refine ⟨_, rfl, ?_, fun a ha => hg' a (List.Sublist.mem ha (List.dropWhile_sublist _)), HdI_strip g, _, hp4, rfl⟩
    have := strip_len g
    omega
theorem law_far_ok (hw : w[n]? = some (.lst pot)) (hp : PotOk pot) (ht : TakeP E j)
    (hl : ∀ (far : Int) (w : W) (pot : List D) (X : Nat → D → W → Prop), w[n]? = some (.lst pot) → PotOk pot → 1 ≤ far → far ≤ 10 ^ 30 → Ret (fun v w' => ∃ (f : List Int) (pot' : List D), v = .d (iT f) ∧ (f.length : Int) ≤ 8 + 1 ∧ (∀ a ∈ f, (a.natAbs : Int) ≤ far) ∧ HdI f ∧ PotOk pot' ∧ w' = w.set n (.lst pot')) X (E.Φ i [.ref n, .d (.int 8), .d (.int far)] w)) :
    Ret (fun v w' => ∃ (f : List Int) (pot' : List D), v = .d (iT f) ∧ f.length ≤ 9 ∧ Sm 100 f ∧ HdI f ∧ PotOk pot' ∧ w' = w.set n (.lst pot')) X (fin w.length (evS E (B_law_far i j) [some (.ref n)] w)) := by
  unfold B_law_far
  simp
  refine ⟨rfl, Ret.imp (ht hw hp (by decide) (by decide)) ?_⟩
  rintro v w1 ⟨r, pot1, rfl, r0, r1, hp1, rfl⟩
  have hw1 := set_get (c := Cell.lst pot1) hw
  have go : ∀ far : Int, 1 ≤ far → far ≤ 10 ^ 30 → Ret (fun a w_1 => finK (List.length w) (fun v w' => ∃ f, v = IV.d (iT f) ∧ f.length ≤ 9 ∧ Sm 100 f ∧ HdI f ∧ ∃ x, PotOk x ∧ w' = List.set w n (Cell.lst x)) X (Fl.ret a) w_1)
      (fun c x w_1 => X c x (List.take (List.length w) w_1)) (E.Φ i [IV.ref n, IV.d (PyData.int 8), IV.d (.int far)] (w.set n (.lst pot1))) := by
    intro far f1 f2
    refine Ret.imp (hl far _ pot1 _ hw1 hp1 f1 f2) ?_
    rintro v w2 ⟨f, pot2, rfl, l, h, hd, hp2, rfl⟩
    rw [List.set_set]
    simp [set_take]
    exact ⟨f, rfl, by omega, fun a ha => by have := h a ha; omega, hd, _, hp2, rfl⟩
  have : r = 0 ∨ r = 1 ∨ r = 2 := by omega
  rcases this with rfl | rfl | rfl
  · exact go 3 (by decide) (by decide)
  · exact go 20 (by decide) (by decide)
  · exact go (10 ^ 30) (by decide) (by decide)
end
end Pv
namespace Pv
open PySem
theorem Bd_div {A : Nat} {t b : Int} (hb : 0 < b) (ht : t.natAbs < 2 ^ A) (hb2 : b.natAbs < 2 ^ A) : Bd A ((t : Rat) / (b : Rat)) := by
  have hg : 0 < Int.gcd t b := Int.gcd_pos_of_ne_zero_right _ (by omega)
  have e := low_nD (t := t) (b := b) (by omega)
  unfold nD at e
  injection e with e
  injection e with e1 e2
  injection e2 with e2 _
  injection e1 with e1
  injection e2 with e2
  unfold Bd
  rw [← e1]
  have d1 : (lowT t b).natAbs ≤ t.natAbs := by
    unfold lowT
    rw [if_pos hb, Int.one_mul, Int.fdiv_eq_ediv_of_nonneg _ (by omega)]
    exact Int.natAbs_ediv_le_natAbs _ _
  have d2 : (lowB t b).natAbs ≤ b.natAbs := by
    unfold lowB
    rw [if_pos hb, Int.one_mul, Int.fdiv_eq_ediv_of_nonneg _ (by omega)]
    exact Int.natAbs_ediv_le_natAbs _ _
  rw [e2] at d2
  exact ⟨by omega, by omega⟩
theorem Bd_vl {B C : Nat} {f : List Int} {r : Rat} (hf : Sm B f) (hr : Bd C r) (lf : f.length ≤ 400) : Bd (B + C * f.length + 10) (vl (toR f) r) := by
  cases f with
  | nil =>
    refine ⟨?_, ?_⟩
    · show (0 : Rat).num.natAbs < _
      exact Nat.two_pow_pos _
    · show (1 : Nat) < _
      exact Nat.one_lt_two_pow (by omega)
  | cons c f =>
    obtain ⟨n, hn⟩ : ∃ n, n + 1 = (c :: f).length := ⟨f.length, rfl⟩
    have e := atS_vl (f := c :: f) (p := r.num) (q := (r.den : Int)) (n := n) (by have := den_pos r; omega) hn _ (Nat.le_refl _)
    rw [← rat_nd, List.take_length, Nat.sub_self, Rat.pow_zero, Rat.mul_one, ← Rat.intCast_pow] at e
    rw [← e]
    have hq : ((r.den : Nat) : Int).natAbs < 2 ^ C := hr.2
    have hC : C * n ≤ C * (c :: f).length := Nat.mul_le_mul_left C (by omega)
    refine Bd_div (Int.pow_pos (den_pos r)) ?_ ?_
    · refine Nat.lt_of_le_of_lt (atS_abs hf hr.1 hq _ (Nat.le_refl _) (by omega)) ?_
      have h1 : 2 ^ (B + C * n) ≤ 2 ^ (B + C * (c :: f).length) := Nat.pow_le_pow_right (by decide) (by omega)
      rw [Nat.pow_add _ _ 10]
      have h2 := Nat.mul_le_mul lf h1
      have := Nat.two_pow_pos (B + C * (c :: f).length)
      omega
    · exact Nat.lt_of_le_of_lt (pow_abs hq n) (Nat.pow_lt_pow_right (by decide) (by omega))
end Pv
namespace Pv
open PySem
end Pv
namespace Pv
open PySem
def PotG (w : W) (n j B : Nat) : Prop := ∃ (a b c : Int) (gs : List Int), w[n]? = some (.mix [.d (.int a), .d (.int b), .d (.int c), .ref j]) ∧ w[j]? = some (.lst (iM gs)) ∧ j < n ∧ 0 ≤ a ∧ a < 2305843009213693951 ∧ 0 ≤ b ∧ 0 ≤ c ∧ c ≤ B ∧ gs.length ≤ 100 ∧ ∀ g ∈ gs, 0 ≤ g
structure Upd (n j : Nat) (w w' : W) : Prop where
  len : w'.length = w.length
  eq : ∀ i, i ≠ n → i ≠ j → w'[i]? = w[i]?
theorem Upd.refl (n j : Nat) (w : W) : Upd n j w w := ⟨rfl, fun _ _ _ => rfl⟩
theorem Upd.trans {n j : Nat} {w w1 w2 : W} (a : Upd n j w w1) (b : Upd n j w1 w2) : Upd n j w w2 := ⟨b.len.trans a.len, fun i h1 h2 => (b.eq i h1 h2).trans (a.eq i h1 h2)⟩
theorem Upd.take {n j : Nat} {w w' : W} {N : Nat} (h : Upd n j w w') (hN : w.length ≤ N) : w'.take N = w' := List.take_of_length_le (by rw [h.len]; exact hN)
theorem Upd.setn {n j : Nat} {w : W} {c : Cell} : Upd n j w (w.set n c) := ⟨by rw [List.length_set], fun i h1 _ => List.getElem?_set_ne (Ne.symm h1)⟩
theorem Upd.setj {n j : Nat} {w : W} {c : Cell} : Upd n j w (w.set j c) := ⟨by rw [List.length_set], fun i _ h1 => List.getElem?_set_ne (Ne.symm h1)⟩
theorem PotG.mono {w : W} {n j B C : Nat} (h : PotG w n j B) (hB : B ≤ C) : PotG w n j C := by
  obtain ⟨a, b, c, gs, h1, h2, h3, h4, h5, h6, h7, h8, h9⟩ := h
  exact ⟨a, b, c, gs, h1, h2, h3, h4, h5, h6, h7, by omega, h9⟩
theorem PotG.of {w w' : W} {n j B : Nat} (h : PotG w n j B) (h1 : w'[n]? = w[n]?) (h2 : w'[j]? = w[j]?) : PotG w' n j B := by
  obtain ⟨a, b, c, gs, e1, e2, h⟩ := h
  exact ⟨a, b, c, gs, h1.trans e1, h2.trans e2, h⟩
theorem PotG.lt {w : W} {n j B : Nat} (h : PotG w n j B) : n < w.length ∧ j < n := by
  obtain ⟨a, b, c, gs, e1, e2, h, _⟩ := h
  exact ⟨(List.getElem?_eq_some_iff.mp e1).1, h⟩
def MixP : Option Cell → (List IV → Prop) → Prop
  | some (.mix vs), p => p vs
  | _, _ => False
@[simp] theorem MixP_m {vs : List IV} {p : List IV → Prop} : MixP (some (.mix vs)) p = p vs := rfl
section
variable {Q : IV → W → Prop} {X : Nat → D → W → Prop} {K : Fl → W → Prop} {E : En} {σ : Sl} {w : W} {a b c : Ex}
@[simp] theorem RetS_stixm : RetS K (evS E (.stixm a b c) σ w) = Ret (fun v w1 => Ret (fun u w2 => Ret (fun i w3 => RefP u fun n => DatP i fun ix => IntP ix fun k => MixP w3[n]? fun vs => OptP (ixN vs.length k) fun j => elOk n v = true ∧ K (.next σ) (w3.set n (.mix (vs.set j v))))
    (fun c x w => K (.exc c x σ) w) (ev E b σ w2)) (fun c x w => K (.exc c x σ) w) (ev E a σ w1)) (fun c x w => K (.exc c x σ) w) (ev E c σ w) := by
  show RetS K (onE (ev E c σ w) σ _) = _
  rw [RetS_onE]
  congr 1
  funext v w1
  rw [RetS_onE]
  congr 1
  funext u w2
  rw [RetS_onE]
  congr 1
  funext i w3
  cases u with
  | ref n =>
    cases i with
    | d ix =>
      cases ix with
      | int k =>
        show RetS K (match w3[n]? with
          | some (.mix vs) => (match ixN vs.length k with
            | some j => if elOk n v then .mk (.next σ) (w3.set n (.mix (vs.set j v))) else .no
            | none => .no)
          | _ => .no) = MixP w3[n]? _
        cases w3[n]? with
        | none => rfl
        | some cc =>
          cases cc with
          | mix vs =>
            show RetS K (match ixN vs.length k with
            | some j => if elOk n v then .mk (.next σ) (w3.set n (.mix (vs.set j v))) else .no
            | none => .no) = OptP (ixN vs.length k) _
            cases ixN vs.length k with
            | none => rfl
            | some j =>
              show RetS K (if elOk n v then _ else _) = (elOk n v = true ∧ _)
              cases elOk n v <;> simp [RetS]
          | _ => rfl
      | _ => rfl
    | _ => rfl
  | _ => rfl
end
section
variable {E : En} {w : W} {n j B : Nat} {many : Int} {X : Nat → D → W → Prop}
theorem subM_at {w : W} {n k : Nat} {vs : List IV} {v : IV} (h : w[n]? = some (.mix vs)) (hk : vs[k]? = some v) : subM w (.ref n) (.d (.int (k : Int))) = some v := by
  have e : (ixN vs.length (k : Int)).bind (fun j => vs[j]?) = some v := by
    rw [ixN_nat (List.getElem?_eq_some_iff.mp hk).1]
    exact hk
  simp only [subM, h, e]
theorem neq_nil {xs : List Int} : cmpD .NotEq (.list (iM xs)) (.list []) = some (!xs.isEmpty) := by
  have h : okD (.list (iM xs)) = true := by
    unfold okD
    rw [show (PyData.list (iM xs)).plain = PyData.plainAll (iM xs) from by simp [PyData.plain], plain_ints (all_ints xs), Bool.true_and]
    have := depth_ints (all_ints xs)
    rw [show (PyData.list (iM xs)).depth = PyData.depthAll (iM xs) + 1 from by simp [PyData.depth]]
    exact decide_eq_true (by omega)
  show (if okD (.list (iM xs)) && okD (.list []) then _ else none) = _
  rw [h, show okD (.list []) = true from rfl]
  show some (!PyData.eqv (.list (iM xs)) (.list [])) = _
  cases xs with
  | nil => rfl
  | cons a r => rfl
theorem pop_0 {a : Int} {r : List Int} (h : w[j]? = some (.lst (iM (a :: r)))) : mthW .popAt (.ref j) [.int 0] w = .ok (.d (.int a)) (w.set j (.lst (iM r))) := by
  unfold mthW
  dsimp only
  rw [h]
  show (match ixN (iM (a :: r)).length ((0 : Nat) : Int) with
      | some j' => _
      | none => _) = _
  rw [ixN_nat (by simp [iM])]
  rfl
def bG1 : St := (.ifs (.and (.cmp .Eq (.subm (.var 0) (.cst (.int (1)))) (.cst (.int (0)))) (.cmp .NotEq (.subm (.var 0) (.cst (.int (3)))) (.lst .nil))) (.cons (.stixm (.var 0) (.cst (.int (1))) (.mth .popAt (.subm (.var 0) (.cst (.int (3)))) (.cons (.cst (.int (0))) .nil))) .nil) .nil)
def bG2 : St := match B_law_take' with
  | .cons _ r => r
  | r => r
theorem sM {a b c : Int} (h : w[n]? = some (.mix [.d (.int a), .d (.int b), .d (.int c), .ref j])) : subM w (.ref n) (.d (.int 0)) = some (.d (.int a)) ∧ subM w (.ref n) (.d (.int 1)) = some (.d (.int b)) ∧ subM w (.ref n) (.d (.int 2)) = some (.d (.int c)) ∧ subM w (.ref n) (.d (.int 3)) = some (.ref j) :=
  ⟨subM_at (k := 0) h rfl, subM_at (k := 1) h rfl, subM_at (k := 2) h rfl, subM_at (k := 3) h rfl⟩
theorem ix41 : ixN 4 1 = some 1 := rfl
theorem ix42 : ixN 4 2 = some 2 := rfl
theorem takeG1 (hp : PotG w n j B) {o2 o3 : Option IV} : RetS (Nx fun σ w' => PotG w' n j B ∧ Upd n j w w' ∧ σ = [some (.ref n), some (.d (.int many)), o2, o3]) (evS E bG1 [some (.ref n), some (.d (.int many)), o2, o3] w) := by
  obtain ⟨a, b, c, gs, e1, e2, hjn, ha, ha2, hb, hc, hcB, hl, hg⟩ := hp
  obtain ⟨s0, s1, s2, s3⟩ := sM e1
  have hn : n < w.length := (List.getElem?_eq_some_iff.mp e1).1
  have hj : j < w.length := (List.getElem?_eq_some_iff.mp e2).1
  have hne : j ≠ n := by omega
  unfold bG1
  simp [s1, s3, e2]
  split
  · rename_i hb0
    simp only [cmpV, rd_ref, e2, rdC_l, rd_d, neq_nil, OptP_some]
    cases gs with
    | nil =>
      simp
      exact ⟨rfl, ⟨a, b, c, [], e1, e2, hjn, ha, ha2, hb, hc, hcB, hl, hg⟩, Upd.refl n j w⟩
    | cons g r =>
      have e3 : (w.set j (.lst (iM r)))[n]? = some (.mix [.d (.int a), .d (.int b), .d (.int c), .ref j]) := by rw [List.getElem?_set_ne hne]; exact e1
      simp [isLst, pop_0 e2, e3, ix41, elOk]
      refine ⟨rfl, ⟨a, g, c, r, List.getElem?_set_self (by rw [List.length_set]; exact hn), ?_, hjn, ha, ha2, hg g (by simp), hc, hcB, by simp at hl; omega, fun x hx => hg x (by simp [hx])⟩, Upd.setj.trans Upd.setn⟩
      rw [List.getElem?_set_ne (Ne.symm hne)]
      exact List.getElem?_set_self hj
  · exact ⟨⟨a, b, c, gs, e1, e2, hjn, ha, ha2, hb, hc, hcB, hl, hg⟩, Upd.refl n j w⟩
theorem takeG2 (hp : PotG w n j B) (hB : B < 2 ^ 40) (hm : 0 < many) (hm2 : many.natAbs.log2 < 9000) {o2 o3 : Option IV} {N : Nat} (hN : w.length = N) :
    RetS (finK N (fun v w' => ∃ r, v = .d (.int r) ∧ 0 ≤ r ∧ r < many ∧ PotG w' n j (B + 1) ∧ Upd n j w w') X) (evS E bG2 [some (.ref n), some (.d (.int many)), o2, o3] w) := by
  obtain ⟨a, b, c, gs, e1, e2, hjn, ha, ha2, hb, hc, hcB, hl, hg⟩ := hp
  obtain ⟨s0, s1, s2, s3⟩ := sM e1
  have hn : n < w.length := (List.getElem?_eq_some_iff.mp e1).1
  have hne : n ≠ j := by omega
  have md : ∀ i : Int, 0 ≤ i.fmod many ∧ i.fmod many < many := fun i => by
    rw [Int.fmod_eq_emod_of_nonneg _ (by omega)]
    exact ⟨Int.emod_nonneg _ (by omega), Int.emod_lt_of_pos _ hm⟩
  have hne0 : ¬ many = 0 := by omega
  have back : ∀ vs, (w.set n (.mix vs))[n]? = some (.mix vs) := fun vs => List.getElem?_set_self hn
  have bj : ∀ vs, (w.set n (.mix vs))[j]? = some (.lst (iM gs)) := fun vs => by rw [List.getElem?_set_ne hne]; exact e2
  have tk : ∀ c, (w.set n c).take N = w.set n c := fun c => List.take_of_length_le (by rw [List.length_set]; omega)
  unfold bG2 B_law_take'
  dsimp only
  simp [s1, e1, hne0, okDiv_small hm hm2, ix41, elOk, tk]
  split
  · rename_i hb1
    refine ⟨(md _).1, (md _).2, ⟨a, b.fdiv many, c, gs, back _, bj _, hjn, ha, ha2, ?_, hc, by omega, hl, hg⟩, Upd.setn⟩
    rw [Int.fdiv_eq_ediv_of_nonneg _ (by omega)]
    exact Int.ediv_nonneg hb (by omega)
  · obtain ⟨t0, t1, t2, t3⟩ := sM (w := w.set n (.mix [.d (.int a), .d (.int b), .d (.int (c + 1)), .ref j])) (back _)
    have o1 : ∀ i : Int, 0 ≤ i → i < 18446744073709551616 → okI i = true := fun i a b => okI_small (by omega)
    have hB' : (B : Int) < 1099511627776 := by
      have : B < 1099511627776 := hB
      omega
    have k1 : okI (c + 1) = true := o1 _ (by omega) (by omega)
    have f1 : ∀ i : Int, i.fmod 2305843009213693951 = i % 2305843009213693951 := fun i => Int.fmod_eq_emod_of_nonneg _ (by decide)
    have f2 : ∀ i : Int, i.fmod 1000000000000000003 = i % 1000000000000000003 := fun i => Int.fmod_eq_emod_of_nonneg _ (by decide)
    have p1 : binD .Pow (.int (a + 6151 * (c + 1))) (.int 3) = some (.int ((a + 6151 * (c + 1)) ^ 3)) := by
      rw [pow_ii, if_pos (by simp only [Bool.and_eq_true, decide_eq_true_eq]; omega)]; rfl
    have p2 : ∀ z : Int, 0 ≤ z → z < 2305843009213693951 → binD .Pow (.int (z + 53 * (c + 1))) (.int 2) = some (.int ((z + 53 * (c + 1)) ^ 2)) := fun z h1 h2 => by
      rw [pow_ii, if_pos (by simp only [Bool.and_eq_true, decide_eq_true_eq]; omega)]; rfl
    have m1 : ∀ i : Int, binD .Mod (.int i) (.int 2305843009213693951) = some (.int (i % 2305843009213693951)) := fun i => by
      rw [mod_ii, f1]; rfl
    have m2 : ∀ i : Int, binD .Mod (.int i) (.int 1000000000000000003) = some (.int (i % 1000000000000000003)) := fun i => by
      rw [mod_ii, f2]; rfl
    have l1 : binD .Mult (.int 6151) (.int (c + 1)) = some (.int (6151 * (c + 1))) := by rw [mul_ii, o1 6151 (by decide) (by decide), k1]; rfl
    have l2 : binD .Mult (.int 53) (.int (c + 1)) = some (.int (53 * (c + 1))) := by rw [mul_ii, o1 53 (by decide) (by decide), k1]; rfl
    have d1 : ∀ i : Int, binD .FloorDiv (.int i) (.int 128) = some (.int (i.fdiv 128)) := fun i => by rw [div_ii, okDiv_small (by decide) (by decide)]; rfl
    simp only [RetS_cons, RetS_stixm, ev_cst, ev_var, slot_cons0, slot_cons, ofO, Ret_ok, RefP_r, DatP_d, IntP_i, s2, s1, e1, ix42, elOk, t0, t2]
    simp only [OptP_some, rd_d, add_ii, List.set_cons_succ, List.set_cons_zero, t0, t2, l1, p1, int_i, m1, l2]
    have hz1 : 0 ≤ (a + 6151 * (c + 1)) ^ 3 % 2305843009213693951 ∧ (a + 6151 * (c + 1)) ^ 3 % 2305843009213693951 < 2305843009213693951 := by omega
    simp only [p2 _ hz1.1 hz1.2, OptP_some, int_i, m2, d1, rd_d]
    simp [hne0, tk]
    exact ⟨(md _).1, (md _).2, ⟨a, b, c + 1, gs, back _, bj _, hjn, ha, ha2, hb, by omega, by omega, hl, hg⟩, Upd.setn⟩
theorem takeG_ok (hp : PotG w n j B) (hB : B < 2 ^ 40) (hm : 0 < many) (hm2 : many.natAbs.log2 < 9000) {o2 o3 : Option IV} :
    Ret (fun v w' => ∃ r, v = .d (.int r) ∧ 0 ≤ r ∧ r < many ∧ PotG w' n j (B + 1) ∧ Upd n j w w') X (fin w.length (evS E B_law_take' [some (.ref n), some (.d (.int many)), o2, o3] w)) := by
  rw [Ret_fin, show B_law_take' = .cons bG1 bG2 from rfl, RetS_cons]
  refine RetS.nx (takeG1 hp) fun σ w' ⟨hp', u, e⟩ => ?_
  subst e
  refine RetS.mono (takeG2 (X := X) (E := E) hp' hB hm hm2 (N := w.length) u.len) fun f w'' h => ?_
  cases f with
  | ret v =>
    cases v with
    | d x =>
      obtain ⟨r, h1, h2, h3, h4, h5⟩ := h
      exact ⟨r, h1, h2, h3, h4, u.trans h5⟩
    | ref k =>
      rw [finK_ref] at h
      split at h <;> (obtain ⟨r, h1, _⟩ := h; cases h1)
    | exc _ _ => obtain ⟨r, h1, _⟩ := h; cases h1
  | next _ => obtain ⟨r, h1, _⟩ := h; cases h1
  | brk _ => exact h
  | cnt _ => exact h
  | exc _ _ _ => exact h
end
end Pv
namespace Pv
open PySem
theorem cutK_map {α β : Type} (f : α → β) (xs : List α) (lo hi : Option Int) (k : Int) : cutK (xs.map f) lo hi k = (cutK xs lo hi k).map f := by
  unfold cutK
  rw [List.length_map, List.map_filterMap]
  congr 1
  funext j
  rw [List.getElem?_map]
theorem cutK_le {α : Type} {xs : List α} {lo hi : Option Int} {k : Int} (k0 : k ≠ 0) : (cutK xs lo hi k).length ≤ xs.length := by
  have h := cutK_len (xs := xs.map fun _ => L2.V.non) (lo := lo) (hi := hi) k0
  rw [cutK_map, List.length_map, List.length_map] at h
  exact h
theorem cutK_mem {α : Type} {xs : List α} {lo hi : Option Int} {k : Int} {a : α} (h : a ∈ cutK xs lo hi k) : a ∈ xs := by
  unfold cutK at h
  obtain ⟨j, _, e⟩ := List.mem_filterMap.mp h
  exact List.mem_of_getElem? e
def bPotL : St := (.cons (.asg (.nm 4) (.bin .Mod (.blt .int (.cons (.bin .Add (.bin .Mult (.var 4) (.cst (.int (1000003)))) (.var 3)) .nil)) (.cst (.int (2305843009213693951))))) (.cons (.ifs (.cmp .GtE (.var 3) (.bin .Pow (.cst (.int (10))) (.cst (.int (18))))) (.cons (.expr (.mth .append (.var 5) (.cons (.bin .Sub (.var 3) (.bin .Pow (.cst (.int (10))) (.cst (.int (18))))) .nil))) .nil) .nil) .nil))
section
variable {E : En} {w : W} {X : Nat → D → W → Prop}
theorem potL {s0 s1 s2 : Option IV} {m c : Int} {gs : List Int} {K : Fl → W → Prop} (h0 : 0 ≤ m) (h1 : m < 2305843009213693951) (hl : gs.length ≤ 100) (hg : ∀ g ∈ gs, 0 ≤ g)
    (hk : ∀ (m' : Int) (gs' : List Int), 0 ≤ m' → m' < 2305843009213693951 → gs'.length ≤ gs.length + 1 → (∀ g ∈ gs', 0 ≤ g) → K (.next [s0, s1, s2, some (.d (.int c)), some (.d (.int m')), some (.ref w.length)]) (w ++ [.lst (iM gs')])) :
    RetS K (evS E bPotL [s0, s1, s2, some (.d (.int c)), some (.d (.int m)), some (.ref w.length)] (w ++ [.lst (iM gs)])) := by
  have f1 : ∀ i : Int, i.fmod 2305843009213693951 = i % 2305843009213693951 := fun i => Int.fmod_eq_emod_of_nonneg _ (by decide)
  have m1 : ∀ i : Int, binD .Mod (.int i) (.int 2305843009213693951) = some (.int (i % 2305843009213693951)) := fun i => by
    rw [mod_ii, f1]; rfl
  have l1 : binD .Mult (.int m) (.int 1000003) = some (.int (m * 1000003)) := by rw [mul_ii, okI_small (by omega), okI_small (by decide)]; rfl
  have ap : ∀ x : Int, mthW .append (.ref w.length) [.int x] (w ++ [.lst (iM gs)]) = .ok (.d .none) (w ++ [.lst (iM (gs ++ [x]))]) := fun x => by
    unfold mthW
    dsimp only
    rw [last_get]
    show (if decide ((iM gs).length < 16777216) = true then _ else _) = _
    rw [if_pos (by simp [iM]; omega), last_set]
    simp [iM]
  have md : 0 ≤ (m * 1000003 + c) % 2305843009213693951 ∧ (m * 1000003 + c) % 2305843009213693951 < 2305843009213693951 := by omega
  unfold bPotL
  simp [okI_small (show m.natAbs < 2 ^ 64 by omega), okI_small (show (1000003 : Int).natAbs < 2 ^ 64 by decide), f1, isLst]
  split
  · rename_i hc
    simp only [ap, Ret_ok]
    refine hk _ (gs ++ [c - 1000000000000000000]) md.1 md.2 (by simp) fun g h => ?_
    rcases List.mem_append.mp h with h | h
    · exact hg g h
    · rw [List.mem_singleton.mp h]; omega
  · exact hk _ gs md.1 md.2 (by omega) hg
theorem slkD_i {ns : List Int} {a b : Int} (hb : b ≠ 0) : slkD (.list (iM ns)) (some a) none (some b) = some (.list (iM (cutK ns (some a) none b))) := by
  show (if (b != 0) = true then some (PyData.list (cutK (iM ns) (some a) none b)) else none) = _
  rw [if_pos (by simpa using hb)]
  unfold iM
  rw [cutK_map]
theorem law_pot_ok {ns : List Int} {deep rounds : Int} (hl : ns.length ≤ 63) (h0 : deep.natAbs < 2 ^ 60) (hr : rounds ≠ 0) (d0 : 0 ≤ deep) (d1 : deep ≤ 100) :
    Ret (fun v w' => v = .ref (w.length + 1) ∧ PotG w' (w.length + 1) w.length 0 ∧ w'.length = w.length + 2 ∧ ∀ i, i < w.length → w'[i]? = w[i]?) X (fin w.length (evS E B_law_pot [some (.d (.list (iM ns))), some (.d (.int deep)), some (.d (.int rounds)), none, none, none] w)) := by
  rw [Ret_fin]
  unfold B_law_pot
  simp [okI_small (show deep.natAbs < 2 ^ 64 by omega), okI_small (show (92821 : Int).natAbs < 2 ^ 64 by decide), slkD_i hr]
  refine ⟨rfl, ?_, ?_⟩
  · have := cutK_le (xs := ns) (lo := some deep) (hi := none) hr
    exact decide_eq_true (by omega)
  · have hcl : (iM (cutK ns (some deep) none rounds)).length ≤ 63 := by
      have := cutK_le (xs := ns) (lo := some deep) (hi := none) hr
      show ((cutK ns (some deep) none rounds).map PyData.int).length ≤ _
      rw [List.length_map]; omega
    refine forL_inv (I := fun k σ w' => ∃ (o3 : Option IV) (m : Int) (gs : List Int), σ = [some (.d (.list (iM ns))), some (.d (.int deep)), some (.d (.int rounds)), o3, some (.d (.int m)), some (.ref w.length)] ∧ w' = w ++ [.lst (iM gs)] ∧ 0 ≤ m ∧ m < 2305843009213693951 ∧ gs.length ≤ k ∧ ∀ g ∈ gs, 0 ≤ g)
      ⟨none, _, [], rfl, rfl, by omega, by omega, by simp, fun _ h => by cases h⟩ ?_ ?_
    · rintro k x σ w' hx ⟨o3, m, gs, rfl, rfl, hm0, hm1, hgl, hg⟩
      have hk : k < (iM (cutK ns (some deep) none rounds)).length := (List.getElem?_eq_some_iff.mp hx).1
      obtain ⟨c, rfl⟩ : ∃ c : Int, x = .int c := by
        have := List.mem_of_getElem? hx
        obtain ⟨c, _, e⟩ := List.mem_map.mp this
        exact ⟨c, e.symm⟩
      rw [RetS_body, asg_nm, OptP_some]
      exact potL hm0 hm1 (by omega) hg fun m' gs' h1 h2 h3 h4 => ⟨_, m', gs', rfl, rfl, h1, h2, by omega, h4⟩
    · rintro σ w' ⟨o3, m, gs, rfl, rfl, hm0, hm1, hgl, hg⟩
      have hn : ¬ (w.length + 1 < w.length) := by omega
      simp [elOk, okL, finK_ref, sq]
      refine ⟨⟨m, 0, 0, gs, ?_, ?_, by omega, hm0, hm1, by omega, by omega, by omega, by omega, hg⟩, fun i hi => ?_⟩
      · rw [List.getElem?_append_right (by simp)]; simp
      · rw [List.getElem?_append_right (by omega)]; simp
      · rw [List.getElem?_append_left (by omega)]
end
end Pv
namespace Pv
open PySem
section
variable {E : En} {w : W} {X : Nat → D → W → Prop} {i : Nat} {f g : List Int} {o o1 o2 o3 o4 o5 : Option IV}
theorem comp_filter {α β : Type} {F : D → W → R (Option D)} {h : α → D} {k : α → D} {c : α → Bool} {w : W} : ∀ {xs : List α}, (∀ x ∈ xs, F (h x) w = .ok (if c x then some (k x) else none) w) → compL F (xs.map h) w = .ok ((xs.filter c).map k) w
  | [], _ => rfl
  | x :: xs, e => by
    have ih := comp_filter (β := β) (F := F) (h := h) (k := k) (c := c) (w := w) (xs := xs) fun y hy => e y (List.mem_cons_of_mem _ hy)
    show (match F (h x) w with
      | .ok o w1 => (compL F (xs.map h) w1).bind fun ys w2 => .ok (o.toList ++ ys) w2
      | _ => .no) = _
    rw [e x List.mem_cons_self]
    show (compL F (xs.map h) w).bind _ = _
    rw [ih]
    rw [List.filter_cons]
    cases hc : c x <;> simp [R.bind]
theorem zip_same : ∀ xs : List D, zipD xs xs = xs.map fun x => .tuple [x, x]
  | [] => rfl
  | x :: xs => by show PyData.tuple [x, x] :: zipD xs xs = _; rw [zip_same xs]; rfl
theorem same_list' {x : D} {xs : List D} (hx : x = .list xs ∨ x = .tuple xs) (hl : xs.length ≤ 1000000) (ih : ∀ y ∈ xs, ∀ w, E.Φ i [.d y, .d y] w = .ok (.d (.bool true)) w) :
    Ret (fun b w' => b = .d (.bool true) ∧ w' = w) X (fin w.length (evS E (B_law_same' i) [some (.d x), some (.d x), none, none] w)) := by
  have comp : compL (elF (isNil .nil) (.tup (.cons (.nm 2) (.cons (.nm 3) .nil))) (ev E .nil) (ev E (.call i (.cons (.var 2) (.cons (.var 3) .nil)))) (wip [some (.d x), some (.d x), none, none] [2, 3])) (zipD xs xs) w = .ok (xs.map fun _ => PyData.bool true) w := by
    rw [zip_same]
    have := compL_map (f := elF (isNil .nil) (.tup (.cons (.nm 2) (.cons (.nm 3) .nil))) (ev E .nil) (ev E (.call i (.cons (.var 2) (.cons (.var 3) .nil)))) (wip [some (.d x), some (.d x), none, none] [2, 3])) (w := w) (xs := xs.map fun x => .tuple [x, x]) (g := fun _ => PyData.bool true) (fun z hz => by
      obtain ⟨y, hy, rfl⟩ := List.mem_map.mp hz
      refine Ret.eq (X := fun _ _ _ => False) ?_ (fun _ _ _ h => h)
      show Ret _ _ (elF true _ _ _ _ _ _)
      rw [Ret_elT]
      simp [wip, ih y hy])
    rw [this, List.map_map]
    rfl
  have len : bltD .len [x] = some (.int xs.length) := by rcases hx with rfl | rfl <;> rfl
  have bl : bltD .all [.list (xs.map fun _ => PyData.bool true)] = some (.bool true) := by
    rw [show (xs.map fun _ => PyData.bool true) = List.replicate xs.length (PyData.bool true) by
      rw [List.eq_replicate_iff]; exact ⟨by simp, fun b hb => by obtain ⟨_, _, e⟩ := List.mem_map.mp hb; exact e.symm⟩]
    show (bools? (List.replicate xs.length (PyData.bool true))).map (fun bs => PyData.bool (bs.all id)) = _
    rw [bools_rep]
    show some (PyData.bool _) = _
    congr 2
    rw [List.all_eq_true]
    intro b hb
    exact (List.mem_replicate.mp hb).2
  have zl : (zipD xs xs).length = xs.length := by rw [zip_same, List.length_map]
  have k0 : (tyB x .tuple || tyB x .list) = true := by rcases hx with rfl | rfl <;> rfl
  have zp : ∀ p : List D → Prop, ZipP (.d x) (.d x) p = p (zipD xs xs) := by rcases hx with rfl | rfl <;> exact fun _ => rfl
  have k1 : (tyB x .tuple = true ∨ tyB x .list = true) := by rcases hx with rfl | rfl <;> simp [tyB]
  unfold B_law_same'
  simp [len, k1, zp, comp, bl, okL, zl]
  omega
theorem same_ok' {n : Nat} {x : D} (hx : SameD n x) (ih : ∀ m y, n = m + 1 → SameD m y → ∀ w, E.Φ i [.d y, .d y] w = .ok (.d (.bool true)) w) :
    fin w.length (evS E (B_law_same' i) [some (.d x), some (.d x), none, none] w) = .ok (.d (.bool true)) w := by
  refine Ret.eq (X := fun _ _ _ => False) ?_ (fun _ _ _ h => h)
  cases hx with
  | non => unfold B_law_same'; simp [isNone, tyB]
  | bl b => unfold B_law_same'; simp [isNone, tyB]
  | int j => unfold B_law_same'; simp [isNone, tyB]
  | str z => unfold B_law_same'; simp [isNone, tyB, eq_str]
  | lst hl h => exact same_list' (.inl rfl) hl fun y hy => ih _ y rfl (h y hy)
  | tup hl h => exact same_list' (.inr rfl) hl fun y hy => ih _ y rfl (h y hy)
theorem lead_count : ∀ f : List Int, ((List.range f.length).filter fun k => ((f.take (k + 1)).filter fun a => a != 0).isEmpty).length = f.length - (stripI f).length
  | [] => rfl
  | a :: f => by
    have ih := lead_count f
    rw [List.length_cons, List.range_succ_eq_map, List.filter_cons, List.filter_map]
    by_cases ha : a = 0
    · subst ha
      have e : stripI (0 :: f) = stripI f := rfl
      rw [e]
      have e2 : ((fun k => ((List.take (k + 1) (0 :: f)).filter fun a => a != 0).isEmpty) ∘ Nat.succ) = fun k => ((f.take (k + 1)).filter fun a => a != 0).isEmpty := by
        funext k
        simp
      simp only [e2, List.length_map]
      have := strip_len f
      simp
      rw [ih]; omega
    · have e : stripI (a :: f) = a :: f := by
        unfold stripI
        rw [List.dropWhile_cons, show is0 a = false by unfold is0; simpa using ha]; rfl
      rw [e]
      have e2 : ((fun k => ((List.take (k + 1) (a :: f)).filter fun a => a != 0).isEmpty) ∘ Nat.succ) = fun k => false := by
        funext k
        simp [ha]
      simp only [e2]
      simp [ha]
theorem drop_lead : ∀ f : List Int, f.drop (f.length - (stripI f).length) = stripI f := fun f => by
  obtain ⟨t, ht⟩ : ∃ t, t ++ stripI f = f := ⟨_, List.takeWhile_append_dropWhile⟩
  have hl : f.length - (stripI f).length = t.length := by
    have : f.length = t.length + (stripI f).length := by rw [← List.length_append, ht]
    omega
  rw [hl]
  conv => lhs; rw [← ht]
  rw [List.drop_append_of_le_length (Nat.le_refl _), List.drop_length]
  rfl
theorem eq_nilL {xs : List Int} : cmpD .Eq (.list (iM xs)) (.list []) = some xs.isEmpty := by
  have h := neq_nil (xs := xs)
  have h2 : okD (.list (iM xs)) = true := by
    unfold okD
    rw [show (PyData.list (iM xs)).plain = PyData.plainAll (iM xs) from by simp [PyData.plain], plain_ints (all_ints xs), Bool.true_and]
    have := depth_ints (all_ints xs)
    rw [show (PyData.list (iM xs)).depth = PyData.depthAll (iM xs) + 1 from by simp [PyData.depth]]
    exact decide_eq_true (by omega)
  show (if okD (.list (iM xs)) && okD (.list []) then some (PyData.eqv (.list (iM xs)) (.list [])) else none) = _
  rw [h2, show okD (.list []) = true from rfl]
  cases xs with
  | nil => rfl
  | cons a r => rfl
theorem law_stripped_ok (hl : f.length ≤ 1000) : fin w.length (evS E B_law_stripped [some (.d (.list (iM f))), o, o1, o2] w) = .ok (.d (iT (stripI f))) w := by
  refine Ret.eq (X := fun _ _ _ => False) ?_ (fun _ _ _ h => h)
  have inner : ∀ (k : Nat) (w : W), compL (elF (isNil (Ex.cmp CmpOp.NotEq (Ex.var 3) (Ex.cst (PyData.int 0)))) (.nm 3) (ev E (.cmp .NotEq (.var 3) (.cst (.int 0)))) (ev E (.var 3)) [some (.d (.list (iM f))), o, some (.d (.int (k : Int))), none]) (iM (f.take (k + 1))) w = .ok (iM ((f.take (k + 1)).filter fun a => a != 0)) w := fun k w => by
    refine comp_filter (β := Int) (h := PyData.int) (k := PyData.int) (c := fun a => a != 0) fun a _ => ?_
    refine Ret.eq (X := fun _ _ _ => False) ?_ (fun _ _ _ h => h)
    show Ret _ _ (elF false _ _ _ _ _ _)
    rw [Ret_elF]
    simp
  have cutk : ∀ k : Nat, cut (iM f) none (some ((k : Int) + 1)) = iM (f.take (k + 1)) := fun k => by
    unfold cut iM
    have c0 : clip (List.map PyData.int f).length 0 none = 0 := rfl
    have c1 : clip (List.map PyData.int f).length (List.map PyData.int f).length (some ((k : Int) + 1)) = min (k + 1) f.length := by
      unfold clip
      rw [List.length_map]
      simp only
      rw [if_neg (by omega)]
      split <;> omega
    rw [c0, c1, List.drop_zero, Nat.sub_zero, ← List.map_take]
    congr 1
    by_cases h : k + 1 ≤ f.length
    · rw [Nat.min_eq_left h]
    · rw [Nat.min_eq_right (by omega), List.take_of_length_le (Nat.le_refl _), List.take_of_length_le (by omega)]
  have outer : compL (elF (isNil (.cmp .Eq (.comp [3] (.var 3) (.nm 3) (.seq (.sl (.var 0) .nil (.cons (.bin .Add (.var 2) (.cst (.int 1))) .nil))) (.cmp .NotEq (.var 3) (.cst (.int 0)))) (.lst .nil))) (.nm 2) (ev E (.cmp .Eq (.comp [3] (.var 3) (.nm 3) (.seq (.sl (.var 0) .nil (.cons (.bin .Add (.var 2) (.cst (.int 1))) .nil))) (.cmp .NotEq (.var 3) (.cst (.int 0)))) (.lst .nil))) (ev E (.cst (.int 1))) (wip [some (.d (.list (iM f))), o, o1, o2] [2])) ((List.range f.length).map fun (k : Nat) => PyData.int k) w = .ok (((List.range f.length).filter fun k => ((f.take (k + 1)).filter fun a => a != 0).isEmpty).map fun _ => PyData.int 1) w := by
    refine comp_filter (β := Int) (h := fun (k : Nat) => PyData.int k) (k := fun _ => PyData.int 1) fun k hk => ?_
    have hk := List.mem_range.mp hk
    refine Ret.eq (X := fun _ _ _ => False) ?_ (fun _ _ _ h => h)
    show Ret _ _ (elF false _ _ _ _ _ _)
    rw [Ret_elF]
    have em := eq_nilL (xs := (f.take (k + 1)).filter fun a => a != 0)
    generalize ((f.take (k + 1)).filter fun a => a != 0).isEmpty = b at em ⊢
    have ol : okL (min (k + 1) f.length) = true := decide_eq_true (by omega)
    simp [wip, slD, cutk, inner, em, ol, show okL 0 = true from rfl]
  have hlen := lead_count f
  have hd := drop_lead f
  have ln : ∀ xs : List D, bltD .len [.list xs] = some (.int xs.length) := fun _ => rfl
  have rg := rng_nat (n := f.length) (by omega)
  have ll : bltD .len [.list (iM f)] = some (.int f.length) := by rw [ln, iM_len]
  have ol : okL ((List.range f.length).map fun (k : Nat) => PyData.int k).length = true := by
    rw [List.length_map, List.length_range]; exact decide_eq_true (by omega)
  have ct : cut (iM f) (some ((f.length - (stripI f).length : Nat) : Int)) none = iM (stripI f) := by
    rw [cut_from]
    unfold iM
    rw [← List.map_drop, hd]
  unfold B_law_stripped
  simp only [Ret_fin, RetS_cons, evS_asgN, RetS_onE, Ret_blt, evA_cons, evA_nil, Ret_bind, Ret_comp, Ret_rng, ev_var, Ret_ofO, slot_cons0, slot_cons, OptP_some, Ret_ok, rdAll_cons, rdAll_nil, rd_d, Option.bind_some, Option.map_some, ll, purs_cons, purs_nil, rg, compP_dat, ol, true_and]
  rw [outer]
  simp [hlen, slD, ct, take_len]
  rfl
end
end Pv
namespace Pv
open PySem
theorem ret_eq2 {Q : Int × Int → Prop} {r : R IV} {w : W} (h : Ret (fun v w' => ∃ t b : Int, (v = .d (.tuple [.int t, .int b]) ∧ w' = w) ∧ Q (t, b)) (fun _ _ _ => False) r) : ∃ t b : Int, r = .ok (.d (.tuple [.int t, .int b])) w ∧ Q (t, b) := by
  cases r with
  | ok v w' => obtain ⟨t, b, ⟨rfl, rfl⟩, h⟩ := h; exact ⟨t, b, rfl, h⟩
  | exc c x w' => exact h.elim
  | no => exact h.elim
section
variable {E : En} {w : W} {o o1 o2 o3 o4 o5 : Option IV} {f g : List Int}
theorem law_at_ok' {B C : Nat} {r : Rat} (hf : Sm B f) (hp : r.num.natAbs < 2 ^ C) (hq : r.den < 2 ^ C) (lf : f.length ≤ 400) (hB : B ≤ 8000) (hC : C ≤ 8000) (hCl : C * 400 ≤ 1000000)
    :
    ∃ t b : Int, fin w.length (evS E B_law_at' [some (.d (iT f)), some (.d (nD r)), o, o1, o2, o3] w) = .ok (.d (.tuple [.int t, .int b])) w ∧ 0 < b ∧ (t : Rat) / (b : Rat) = vl (toR f) r ∧ b = (r.den : Int) ^ (f.length - 1) ∧ t.natAbs ≤ f.length * 2 ^ (B + C * f.length) := by
  refine ret_eq2 (Q := fun (p : Int × Int) => 0 < p.2 ∧ (p.1 : Rat) / (p.2 : Rat) = vl (toR f) r ∧ p.2 = (r.den : Int) ^ (f.length - 1) ∧ p.1.natAbs ≤ f.length * 2 ^ (B + C * f.length)) ?_
  have ok2 : okL 2 = true := rfl
  have hden : 0 < (r.den : Int) := by have := r.den_nz; omega
  have hr : ((r.num : Rat) / ((r.den : Int) : Rat)) = r := by
    rw [← Rat.divInt_eq_div, Rat.num_divInt_den]
  have x0 : subD (nD r) (.int 0) = some (.int r.num) := tub_0
  have x1 : subD (nD r) (.int 1) = some (.int (r.den : Int)) := tub_1
  unfold B_law_at'
  simp only [Ret_fin, RetS_cons, RetS_asgT, Ret_tup, evA_cons, evA_nil, ev_cst, Ret_bind, Ret_ok, purs_cons, purs_nil, Option.map_some, OptP_some, List.length_cons, List.length_nil, Nat.zero_add, Nat.reduceAdd, ok2, true_and, DatP_d, asg_tup, asgs_cons, asg_nm, asgs_nil, Option.bind_some, sq_next, List.set_cons_succ, List.set_cons_zero]
  refine RetS.nx (M := fun σ w' => w' = w ∧ ∃ (t b : Int) (x4 x5 : Option IV), σ = [some (.d (iT f)), some (.d (nD r)), some (.d (.int t)), some (.d (.int b)), x4, x5] ∧ 0 < b ∧ (t : Rat) / (b : Rat) = vl (toR f) r ∧ t.natAbs ≤ f.length * 2 ^ (B + C * f.length) ∧ b.natAbs ≤ 2 ^ (C * f.length) ∧ b = (r.den : Int) ^ (f.length - 1)) ?_ ?_
  · rw [RetS_for, Ret_enm]
    simp only [ev_var, Ret_ofO, slot_cons0, OptP_some, DatP_d, show itemsD (iT f) = some (iM f) from rfl, forP_dat]
    refine ⟨by rw [enumD_len, iM_len]; exact decide_eq_true (by omega), ?_⟩
    refine forL_inv (fun k σ w' => w' = w ∧ ∃ (t b : Int) (x4 x5 : Option IV), σ = [some (.d (iT f)), some (.d (nD r)), some (.d (.int t)), some (.d (.int b)), x4, x5] ∧ 0 < b ∧ (t : Rat) / (b : Rat) = vl (toR (f.take k)) r ∧ t.natAbs ≤ k * 2 ^ (B + C * k) ∧ b.natAbs ≤ 2 ^ (C * k) ∧ b = (r.den : Int) ^ (k - 1))
      ⟨rfl, 0, 1, _, _, rfl, by decide, by show ((0 : Int) : Rat) / ((1 : Int) : Rat) = 0; grind, by simp, by simp, rfl⟩ ?_ ?_
    · rintro k z σ w' hz ⟨rfl, t, b, x4, x5, rfl, hb0, he, ht, hb, hbk⟩
      obtain ⟨a, ha, rfl⟩ := enum_get hz
      have hkf : k < f.length := (List.getElem?_eq_some_iff.mp ha).1
      have ham : a.natAbs < 2 ^ B := hf a (List.mem_of_getElem? ha)
      have hdn : ((r.den : Nat) : Int).natAbs < 2 ^ C := hq
      have hmono : C * k ≤ 1000000 := Nat.le_trans (Nat.mul_le_mul_left C (by omega : k ≤ 400)) hCl
      have oa : okI a = true := okI_pow ham (by omega)
      have op : okI r.num = true := okI_pow hp (by omega)
      have oq : okI (r.den : Int) = true := okI_pow hdn (by omega)
      have ob : okI b = true := okI_pow (m := C * k + 1) (Nat.lt_of_le_of_lt hb (Nat.pow_lt_pow_right (by decide) (Nat.lt_succ_self _))) (by omega)
      have ot : okI t = true := okI_pow (m := B + C * k + 10) (by
        refine Nat.lt_of_le_of_lt ht ?_
        rw [Nat.pow_add _ (B + C * k) 10, Nat.mul_comm]
        exact (Nat.mul_lt_mul_left (Nat.two_pow_pos _)).mpr (by omega)) (by omega)
      rw [RetS_body]
      simp only [asg_tup, asgs_cons, asg_nm, asgs_nil, Option.bind_some, OptP_some, List.set_cons_succ, List.set_cons_zero]
      rw [take_snoc ha, toR_snoc, vl_snoc]
      rcases Nat.eq_zero_or_pos k with k0 | k0
      · subst k0
        have t0 : t = 0 := by
          rw [Nat.zero_mul] at ht; omega
        subst t0
        have z0 : vl (toR (f.take 0)) r = 0 := rfl
        simp [x0, ot, op, oa, okI_small (i := 1) (by decide)]
        refine ⟨_, _, ⟨rfl, rfl⟩, by decide, ?_, ?_, ?_, rfl⟩
        · rw [show vl (toR []) r = 0 from rfl]; grind
        · rw [Nat.pow_add]
          have := Nat.mul_le_mul (Nat.le_of_lt ham) (Nat.one_le_two_pow (n := C))
          omega
        · exact Nat.one_le_two_pow
      · have kp : 0 < (k : Int) := by omega
        have s1 := size_step (k := k) ht hb ham hp hdn
        have obq : okI (b * (r.den : Int)) = true := okI_pow (m := C * (k + 1) + 1) (Nat.lt_of_le_of_lt s1.2 (Nat.pow_lt_pow_right (by decide) (Nat.lt_succ_self _))) (by rw [Nat.mul_add]; omega)
        have e2 := rat_step (a := a) (p := r.num) hb0 hden he
        rw [hr] at e2
        simp [kp, k0, x0, x1, ot, op, oa, ob, oq, obq]
        exact ⟨_, _, ⟨rfl, rfl⟩, Int.mul_pos hb0 hden, e2, s1.1, s1.2, by rw [hbk, ← Int.pow_succ]; congr 1; omega⟩
    · rintro σ w' ⟨rfl, t, b, x4, x5, rfl, hb0, he, ht, hb, hbk⟩
      rw [enumD_len, iM_len] at he ht hb hbk
      rw [List.take_length] at he
      exact ⟨rfl, t, b, x4, x5, rfl, hb0, he, ht, hb, hbk⟩
  · rintro σ w' ⟨rfl, t, b, x4, x5, rfl, hb0, he, ht, hb, hbk⟩
    simp [take_len, show okL 2 = true from rfl]
    exact ⟨t, b, ⟨rfl, rfl⟩, hb0, he, hbk, ht⟩
theorem mul_loops {B C : Nat} {zs : List Int} (hf : Sm B f) (hg : Sm C g) (hB : B ≤ 8000) (hC : C ≤ 8000) (lf : f.length ≤ 400) (lg : g.length ≤ 400) (zl : zs.length = f.length + g.length - 1) :
    RetS (Nx fun σ w' => ∃ x3 x4 x5 x6, w' = w ++ [.lst (iM (outI g f 0 zs))] ∧ σ = [some (.d (iT f)), some (.d (iT g)), some (.ref w.length), x3, x4, x5, x6])
      (evS E (.for_ (.tup (.cons (.nm 3) (.cons (.nm 4) .nil))) (.enm (.var 0)) (.cons (.for_ (.tup (.cons (.nm 5) (.cons (.nm 6) .nil))) (.enm (.var 1)) (.cons (.stix (.var 2) (.bin .Add (.var 3) (.var 5)) (.bin .Add (.sub (.var 2) (.bin .Add (.var 3) (.var 5))) (.bin .Mult (.var 4) (.var 6)))) .nil)) .nil)) [some (.d (iT f)), some (.d (iT g)), some (.ref w.length), o1, o2, o3, o4] (w ++ [.lst (iM zs)])) := by
  have okl : ∀ k : Nat, k ≤ 1000 → okL k = true := fun k h => decide_eq_true (by omega)
  rw [RetS_for, Ret_enm]
  simp only [ev_var, Ret_ofO, List.set_cons_succ, List.set_cons_zero, slot_cons0, OptP_some, DatP_d, show itemsD (iT f) = some (iM f) from rfl, forP_dat]
  refine ⟨by rw [enumD_len, iM_len]; exact okl _ (by omega), ?_⟩
  refine forL_inv (fun k σ w' => ∃ acc x3 x4 x5 x6, w' = w ++ [.lst (iM acc)] ∧ acc.length = f.length + g.length - 1 ∧ outI g (f.drop k) k acc = outI g f 0 zs ∧ σ = [some (.d (iT f)), some (.d (iT g)), some (.ref w.length), x3, x4, x5, x6]) ⟨zs, _, _, _, _, rfl, zl, rfl, rfl⟩ ?_ ?_
  · rintro k z σ w' hz ⟨acc, x3, x4, x5, x6, rfl, al, he, rfl⟩
    obtain ⟨a, ha, rfl⟩ := enum_get hz
    have hkf : k < f.length := (List.getElem?_eq_some_iff.mp ha).1
    have dr : f.drop k = a :: f.drop (k + 1) := by
      rw [List.drop_eq_getElem_cons hkf]
      congr 1
      rw [List.getElem?_eq_getElem hkf] at ha
      exact Option.some.inj ha
    rw [RetS_body]
    simp only [asg_tup, asgs_cons, asg_nm, asgs_nil, Option.bind_some, OptP_some, List.set_cons_succ, List.set_cons_zero]
    rw [RetS_cons]
    refine RetS.nx (M := fun σ w' => ∃ x5 x6, w' = w ++ [.lst (iM (innI k a g 0 acc))] ∧ σ = [some (.d (iT f)), some (.d (iT g)), some (.ref w.length), some (.d (.int (k : Int))), some (.d (.int a)), x5, x6]) ?_ ?_
    · rw [RetS_for, Ret_enm]
      simp only [ev_var, Ret_ofO, slot_cons0, slot_cons, OptP_some, DatP_d, show itemsD (iT g) = some (iM g) from rfl, forP_dat]
      refine ⟨by rw [enumD_len, iM_len]; exact okl _ (by omega), ?_⟩
      refine forL_inv (fun p σ w' => ∃ ac x5 x6, w' = w ++ [.lst (iM ac)] ∧ ac.length = f.length + g.length - 1 ∧ innI k a (g.drop p) p ac = innI k a g 0 acc ∧ σ = [some (.d (iT f)), some (.d (iT g)), some (.ref w.length), some (.d (.int (k : Int))), some (.d (.int a)), x5, x6]) ⟨acc, _, _, rfl, al, rfl, rfl⟩ ?_ ?_
      · rintro p z σ w' hz ⟨ac, x5, x6, rfl, acl, hi, rfl⟩
        obtain ⟨b, hb, rfl⟩ := enum_get hz
        have hpg : p < g.length := (List.getElem?_eq_some_iff.mp hb).1
        have dg : g.drop p = b :: g.drop (p + 1) := by
          rw [List.drop_eq_getElem_cons hpg]
          congr 1
          rw [List.getElem?_eq_getElem hpg] at hb
          exact Option.some.inj hb
        rw [RetS_body]
        simp only [asg_tup, asgs_cons, asg_nm, asgs_nil, Option.bind_some, OptP_some, List.set_cons_succ, List.set_cons_zero, RetS_cons]
        have oa : okI a = true := okI_of hf hB (List.mem_of_getElem? ha)
        have ob : okI b = true := okI_of hg hC (List.mem_of_getElem? hb)
        rw [stix_add (m := w.length) (k := k) (p := p) (c := a * b) (acc := ac) rfl rfl rfl last_get (by omega) (by
          refine Ret.eq (X := fun _ _ _ => False) ?_ (fun _ _ _ h => h)
          simp [oa, ob]), last_set]
        simp only [sq_next, evS_nil, RetS_mk, loopK_next]
        exact ⟨_, _, _, rfl, by rw [List.length_set]; exact acl, by rw [← hi, dg]; rfl, rfl⟩
      · rintro σ w' ⟨ac, x5, x6, rfl, acl, hi, rfl⟩
        rw [enumD_len, iM_len, List.drop_length] at hi
        exact ⟨x5, x6, by rw [← hi]; rfl, rfl⟩
    · rintro σ w' ⟨x5, x6, rfl, rfl⟩
      exact ⟨_, _, _, _, _, rfl, by rw [innI_len]; exact al, by rw [← he, dr]; rfl, rfl⟩
  · rintro σ w' ⟨acc, x3, x4, x5, x6, rfl, al, he, rfl⟩
    rw [enumD_len, iM_len, List.drop_length] at he
    exact ⟨x3, x4, x5, x6, by rw [← he]; rfl, rfl⟩
theorem law_mul_ok {B C : Nat} (hf : Sm B f) (hg : Sm C g) (hB : B ≤ 8000) (hC : C ≤ 8000) (lf : f.length ≤ 400) (lg : g.length ≤ 400) :
    fin w.length (evS E B_law_mul [some (.d (iT f)), some (.d (iT g)), o, o1, o2, o3, o4] w) = .ok (.d (iT (mulI f g))) w := by
  refine Ret.eq (X := fun _ _ _ => False) ?_ (fun _ _ _ h => h)
  have ln' : ∀ h : List Int, bltD .len [iT h] = some (.int h.length) := fun h => by show some (PyData.int ((iM h).length : Int)) = _; rw [iM_len]
  have okl : ∀ k : Nat, k ≤ 1000 → okL k = true := fun k h => decide_eq_true (by omega)
  have tt : ∀ h : List Int, bltD .tuple [.list (iM h)] = some (iT h) := fun _ => rfl
  unfold B_law_mul
  by_cases hz : f.isEmpty = true ∨ g.isEmpty = true
  · have hm : mulI f g = [] := by
      unfold mulI
      rw [if_pos (by simpa using hz)]
    have h0 : okL 0 = true := rfl
    rcases hz with h | h
    · simp [eq_unitI, h0, hm, take_len, h]; rfl
    · simp [eq_unitI, h0, hm, take_len, h]
      first | rfl | (cases f.isEmpty <;> first | rfl | (simp; rfl)) | trace_state
  · have hf0 : f ≠ [] := fun e => hz (.inl (by rw [e]; rfl))
    have hg0 : g ≠ [] := fun e => hz (.inr (by rw [e]; rfl))
    have fl : 0 < f.length := List.length_pos_iff.mpr hf0
    have gl : 0 < g.length := List.length_pos_iff.mpr hg0
    have hm : mulI f g = outI g f 0 (List.replicate (f.length + g.length - 1) 0) := by
      unfold mulI
      rw [if_neg (by simpa using hz)]
    have e1 : f.isEmpty = false := by simpa using hf0
    have e2 : g.isEmpty = false := by simpa using hg0
    have tn : ((f.length : Int) + g.length - 1).toNat = f.length + g.length - 1 := by omega
    have rp : binD .Mult (.list [.int 0]) (.int ((f.length : Int) + g.length - 1)) = some (.list (iM (List.replicate (f.length + g.length - 1) 0))) := by
      rw [mul_li, if_pos (by simp; omega), tn, rep_zero]
    have h0 : okL 0 = true := rfl
    have h1 : okL 1 = true := rfl
    rw [Ret_fin, RetS_cons]
    refine RetS.nx (M := fun σ w' => w' = w ∧ σ = [some (.d (iT f)), some (.d (iT g)), o, o1, o2, o3, o4]) (by simp [eq_unitI, h0, e1, e2]) ?_
    rintro σ w' ⟨rfl, rfl⟩
    rw [RetS_cons]
    refine RetS.nx (M := fun σ w2 => w2 = w' ++ [.lst (iM (List.replicate (f.length + g.length - 1) 0))] ∧ σ = [some (.d (iT f)), some (.d (iT g)), some (.ref w'.length), o1, o2, o3, o4]) ?_ ?_
    · simp only [evS_asgN, RetS_onE, ev_new, Ret_bind, Ret_bin, Ret_lst, Ret_blt, evA_cons, evA_nil, ev_cst, ev_var, Ret_ok, Ret_ofO, slot_cons0, slot_cons, purs_cons, purs_nil, Option.map_some, OptP_some, List.length_cons, List.length_nil, Nat.zero_add, h1, true_and, rdAll_cons, rdAll_nil, rd_d, Option.bind_some, ln', add_ii, sub_ii, rp, newW_l, RetS_mk, Nx_next, List.set_cons_succ, List.set_cons_zero, and_self]
    · rintro σ w2 ⟨rfl, rfl⟩
      rw [RetS_cons]
      refine RetS.nx (mul_loops hf hg hB hC lf lg (List.length_replicate ..)) ?_
      rintro σ w2 ⟨x3, x4, x5, x6, rfl, rfl⟩
      simp [tt, hm]
end
end Pv
namespace Pv
open PySem
section
variable {E : En} {w : W} {o o1 o2 o3 o4 o5 : Option IV} {f g : List Int}
theorem law_add_ok {i : Nat} (hf : f.length ≤ 500) (hg : g.length ≤ 500)
    (hs : ∀ (h : List Int) (w : W), h.length ≤ 1000 → E.Φ i [.d (.list (iM h))] w = .ok (.d (iT (stripI h))) w) :
    fin w.length (evS E (B_law_add i) [some (.d (iT f)), some (.d (iT g)), o, o1, o2, o3, o4] w) = .ok (.d (iT (addI f g))) w := by
  refine Ret.eq (X := fun _ _ _ => False) ?_ (fun _ _ _ h => h)
  have mx : bltD .max [.int (f.length : Int), .int (g.length : Int)] = some (.int ((max f.length g.length : Nat) : Int)) := by
    show some (PyData.int (if (g.length : Int) > f.length then g.length else f.length)) = _
    congr 2
    split <;> omega
  have ln' : ∀ h : List Int, bltD .len [iT h] = some (.int h.length) := fun h => by show some (PyData.int ((iM h).length : Int)) = _; rw [iM_len]
  have ln : ∀ h : List Int, h.length ≤ max f.length g.length → (padI (max f.length g.length) h).length = max f.length g.length := fun h hh => by
    unfold padI
    rw [List.length_append, List.length_replicate]; omega
  have pd : ∀ h : List Int, h.length ≤ max f.length g.length → (List.replicate (((max f.length g.length : Nat) : Int) - (h.length : Int)).toNat [PyData.int 0]).flatten ++ iM h = iM (padI (max f.length g.length) h) := fun h hh => by
    rw [show (((max f.length g.length : Nat) : Int) - (h.length : Int)).toNat = max f.length g.length - h.length by omega, rep_zero]
    unfold padI iM
    rw [List.map_append]
  have tt : ∀ h : List Int, bltD .tuple [iT h] = some (.tuple (iM h)) := fun _ => rfl
  have sc := sum_comp (E := E) (w := w) (f := padI (max f.length g.length) f) (g := padI (max f.length g.length) g) (x := 5) (y := 6) (σ := wip [some (.d (iT f)), some (.d (iT g)), some (.d (.int ((max f.length g.length : Nat) : Int))), some (.d (iT (padI (max f.length g.length) f))), some (.d (iT (padI (max f.length g.length) g))), o3, o4] [5, 6]) (by simp [wip]) (by simp [wip]) (by decide)
  have zl : okL (zipD (iM (padI (max f.length g.length) f)) (iM (padI (max f.length g.length) g))).length = true := by
    rw [zipD_len, iM_len, iM_len, ln f (by omega), ln g (by omega)]
    exact decide_eq_true (by omega)
  have st := hs (List.zipWith (· + ·) (padI (max f.length g.length) f) (padI (max f.length g.length) g)) w (by rw [List.length_zipWith, ln f (by omega), ln g (by omega)]; omega)
  have zp : ∀ p : List D → Prop, ZipP (.d (iT (padI (max f.length g.length) f))) (.d (iT (padI (max f.length g.length) g))) p = p (zipD (iM (padI (max f.length g.length) f)) (iM (padI (max f.length g.length) g))) := fun _ => rfl
  have rp : ∀ h : List Int, h.length ≤ max f.length g.length → binD .Mult (.tuple [.int 0]) (.int (((max f.length g.length : Nat) : Int) - (h.length : Int))) = some (.tuple (List.replicate (((max f.length g.length : Nat) : Int) - (h.length : Int)).toNat [PyData.int 0]).flatten) := fun h hh => by
    rw [mul_ti, if_pos (by simp; omega)]
  have ad : ∀ h : List Int, h.length ≤ max f.length g.length → binD .Add (.tuple (List.replicate (((max f.length g.length : Nat) : Int) - (h.length : Int)).toNat [PyData.int 0]).flatten) (.tuple (iM h)) = some (iT (padI (max f.length g.length) h)) := fun h hh => by
    rw [add_tt, pd h hh, if_pos]
    · rfl
    · have : ((List.replicate (((max f.length g.length : Nat) : Int) - (h.length : Int)).toNat [PyData.int 0]).flatten ++ iM h).length = max f.length g.length := by rw [pd h hh, iM_len, ln h hh]
      rw [List.length_append] at this
      exact decide_eq_true (by omega)
  have h1 : okL 1 = true := rfl
  unfold B_law_add
  rw [Ret_fin, RetS_cons]
  simp only [evS_asgN, RetS_onE, Ret_blt, evA_cons, evA_nil, Ret_bind, ev_var, Ret_ofO, slot_cons0, slot_cons, OptP_some, Ret_ok, rdAll_cons, rdAll_nil, rd_d, Option.bind_some, Option.map_some, ln', mx, RetS_mk, sq_next, List.set_cons_succ, List.set_cons_zero]
  rw [RetS_cons]
  simp only [evS_par, RetS_onE, Ret_bin, Ret_tup, Ret_blt, evA_cons, evA_nil, Ret_bind, ev_var, ev_cst, Ret_ofO, slot_cons0, slot_cons, OptP_some, Ret_ok, rdAll_cons, rdAll_nil, rd_d, Option.bind_some, Option.map_some, ln', mx, RetS_mk, sq_next, List.set_cons_succ, List.set_cons_zero, purs_cons, purs_nil, List.length_cons, List.length_nil, Nat.zero_add, h1, true_and, sub_ii, rp f (by omega), rp g (by omega), tt, ad f (by omega), ad g (by omega), RetS_ofS, setAll_cons, setAll_nil]
  rw [RetS_cons]
  simp [zp, sc, zl, st, take_len]
  rfl
theorem law_fits_ok {most : Int} (hl : f.length ≤ 1000) : fin w.length (evS E B_law_fits [some (.d (iT f)), some (.d (.int most)), o] w) = .ok (.d (.bool (decide ((f.length : Int) ≤ most + 1) && f.all fun a => decide (a.natAbs ≤ 20)))) w := by
  refine Ret.eq (X := fun _ _ _ => False) ?_ (fun _ _ _ h => h)
  have comp : compL (elF (isNil .nil) (.nm 2) (ev E .nil) (ev E (.cmp .LtE (.blt .abs (.cons (.var 2) .nil)) (.cst (.int 20)))) (wip [some (.d (iT f)), some (.d (.int most)), o] [2])) (iM f) w = .ok (f.map fun a => PyData.bool (decide (a.natAbs ≤ 20))) w := by
    have := compL_map (f := elF (isNil .nil) (.nm 2) (ev E .nil) (ev E (.cmp .LtE (.blt .abs (.cons (.var 2) .nil)) (.cst (.int 20)))) (wip [some (.d (iT f)), some (.d (.int most)), o] [2])) (w := w) (xs := iM f) (g := fun d => match d with
      | .int a => PyData.bool (decide (a.natAbs ≤ 20))
      | _ => .none) (fun z hz => by
      obtain ⟨a, _, rfl⟩ := List.mem_map.mp hz
      refine Ret.eq (X := fun _ _ _ => False) ?_ (fun _ _ _ h => h)
      show Ret _ _ (elF true _ _ _ _ _ _)
      rw [Ret_elT]
      simp [wip]
      split <;> omega)
    rw [this]
    unfold iM
    rw [List.map_map]
    rfl
  have bl : bltD .all [.list (f.map fun a => PyData.bool (decide (a.natAbs ≤ 20)))] = some (.bool (f.all fun a => decide (a.natAbs ≤ 20))) := by
    have e : ∀ l : List Int, bools? (l.map fun a => PyData.bool (decide (a.natAbs ≤ 20))) = some (l.map fun a => decide (a.natAbs ≤ 20)) := fun l => by
      induction l with
      | nil => rfl
      | cons a l ih =>
        show (bools? (l.map fun a => PyData.bool (decide (a.natAbs ≤ 20)))).map _ = _
        rw [ih]; rfl
    show (bools? (f.map fun a => PyData.bool (decide (a.natAbs ≤ 20)))).map (fun bs => PyData.bool (bs.all id)) = _
    rw [e]
    show some (PyData.bool _) = _
    rw [List.all_map]
    rfl
  unfold B_law_fits
  simp [len_iT, comp, bl, show itemsD (iT f) = some (iM f) from rfl, show toIt w (.d (iT f)) = some (.dat (iM f)) from rfl, take_len, iM_len, show okL f.length = true from decide_eq_true (by omega)]
  split
  · rename_i h; exact fun _ => h
  · rename_i h; exact fun c => absurd c h
end
end Pv
namespace Pv
open PySem
def TakeG (E : En) (i : Nat) : Prop := ∀ {w : W} {n j B : Nat} {many : Int} {X : Nat → D → W → Prop}, PotG w n j B → B < 2 ^ 40 → 0 < many → many.natAbs.log2 < 9000 →
  Ret (fun v w' => ∃ r, v = .d (.int r) ∧ 0 ≤ r ∧ r < many ∧ PotG w' n j (B + 1) ∧ Upd n j w w') X (E.Φ i [.ref n, .d (.int many)] w)
theorem pickI {q : List Int} {r : Int} (h0 : 0 ≤ r) (h1 : r < q.length) : ∃ a, a ∈ q ∧ subD (.list (q.map .int)) (.int r) = some (.int a) := by
  obtain ⟨k, rfl⟩ : ∃ k : Nat, r = (k : Int) := ⟨r.toNat, by omega⟩
  have hk : k < q.length := by omega
  refine ⟨q[k], List.getElem_mem hk, sub_nat ?_⟩
  rw [List.getElem?_map, List.getElem?_eq_getElem hk]
  rfl
theorem Upd.len' {n j : Nat} {w w' : W} (h : Upd n j w w') : w'.take w.length = w' := h.take (Nat.le_refl _)
structure Dr (m : Nat) (f : List Int) : Prop where
  hd : HdI f
  len : f.length ≤ m
  le : ∀ a ∈ f, a.natAbs ≤ 20
theorem Dr.sm {m : Nat} {f : List Int} (h : Dr m f) : Sm 5 f := fun a ha => by have := h.le a ha; omega
section
variable {E : En} {w : W} {n j B : Nat} {X : Nat → D → W → Prop} {o o1 o2 o3 o4 o5 o6 : Option IV} {i1 i2 i3 i4 i5 i6 : Nat}
theorem law_factor_ok' (hp : PotG w n j B) (hB : B + 10 < 2 ^ 40) (ht : TakeG E i1) :
    Ret (fun v w' => ∃ p : List Int, v = .d (iT p) ∧ HdI p ∧ p ≠ [] ∧ p.length ≤ 3 ∧ (∀ a ∈ p, a.natAbs ≤ 3) ∧ PotG w' n j (B + 4) ∧ Upd n j w w') X (fin w.length (evS E (B_law_factor' i1) [some (.ref n)] w)) := by
  unfold B_law_factor'
  simp
  refine Ret.imp (ht hp (by omega) (by decide) (by decide)) ?_
  rintro v w1 ⟨r, rfl, r0, r1, hp1, u1⟩
  simp
  have h5 : okL 5 = true := rfl
  have h3 : okL 3 = true := rfl
  have h2 : okL 2 = true := rfl
  by_cases z : r = 0
  · simp [z, h5, h2]
    refine Ret.imp (ht hp1 (by omega) (by decide) (by decide)) ?_
    rintro v w2 ⟨r2, rfl, s0, s1, hp2, u2⟩
    obtain ⟨a, ha, e⟩ := pickI (q := [1, 1, 1, 2, 3]) s0 s1
    simp only [List.map_cons, List.map_nil] at e
    simp [e]
    refine Ret.imp (ht hp2 (by omega) (by decide) (by decide)) ?_
    rintro v w3 ⟨r3, rfl, t0, t1, hp3, u3⟩
    have u := (u1.trans u2).trans u3
    simp [h2, u.len']
    refine ⟨[a, r3 - 3], rfl, fun x hx => ?_, by simp, by simp, fun x hx => ?_, hp3.mono (by omega), u⟩
    · cases hx
      simp at ha; omega
    · simp at hx ha; omega
  · simp [z, h3]
    refine Ret.imp (ht hp1 (by omega) (by decide) (by decide)) ?_
    rintro v w2 ⟨r2, rfl, s0, s1, hp2, u2⟩
    obtain ⟨a, ha, e⟩ := pickI (q := [1, 1, 2]) s0 s1
    simp only [List.map_cons, List.map_nil] at e
    simp [e]
    refine Ret.imp (ht hp2 (by omega) (by decide) (by decide)) ?_
    rintro v w3 ⟨r3, rfl, t0, t1, hp3, u3⟩
    simp
    refine Ret.imp (ht hp3 (by omega) (by decide) (by decide)) ?_
    rintro v w4 ⟨r4, rfl, q0, q1, hp4, u4⟩
    have u := ((u1.trans u2).trans u3).trans u4
    simp [h3, u.len']
    refine ⟨[a, r3 - 2, r4 - 3], rfl, fun x hx => ?_, by simp, by simp, fun x hx => ?_, hp4.mono (by omega), u⟩
    · cases hx
      simp at ha; omega
    · simp at hx ha; omega
theorem law_drawn_ok' {most : Nat} (hm : most ≤ 10) (hp : PotG w n j B) (hB : B + 50 < 2 ^ 40) (ht : TakeG E i1)
    (hs : ∀ (h : List Int) (w : W), h.length ≤ 1000 → E.Φ i2 [.d (.list (iM h))] w = .ok (.d (iT (stripI h))) w)
    (hf : ∀ {w : W} {B : Nat} {X : Nat → D → W → Prop}, PotG w n j B → B + 10 < 2 ^ 40 → Ret (fun v w' => ∃ p : List Int, v = .d (iT p) ∧ HdI p ∧ p ≠ [] ∧ p.length ≤ 3 ∧ (∀ a ∈ p, a.natAbs ≤ 3) ∧ PotG w' n j (B + 4) ∧ Upd n j w w') X (E.Φ i3 [.ref n] w))
    (hml : ∀ {f g : List Int} {B C : Nat} (w : W), Sm B f → Sm C g → B ≤ 8000 → C ≤ 8000 → f.length ≤ 400 → g.length ≤ 400 → E.Φ i4 [.d (iT f), .d (iT g)] w = .ok (.d (iT (mulI f g))) w)
    (hft : ∀ {f : List Int} {most : Int} (w : W), f.length ≤ 1000 → E.Φ i5 [.d (iT f), .d (.int most)] w = .ok (.d (.bool (decide ((f.length : Int) ≤ most + 1) && f.all fun a => decide (a.natAbs ≤ 20)))) w)
    (had : ∀ {f g : List Int} (w : W), f.length ≤ 500 → g.length ≤ 500 → E.Φ i6 [.d (iT f), .d (iT g)] w = .ok (.d (iT (addI f g))) w) :
    Ret (fun v w' => ∃ f : List Int, v = .d (iT f) ∧ Dr (most + 1) f ∧ PotG w' n j (B + 40) ∧ Upd n j w w') X (fin w.length (evS E (B_law_drawn' i1 i2 i3 i4 i5 i6) [some (.ref n), some (.d (.int (most : Int))), o, o1, o2, o3, o4, o5, o6] w)) := by
  have okl : ∀ k : Nat, k ≤ 1000 → okL k = true := fun k h => decide_eq_true (by omega)
  unfold B_law_drawn'
  rw [Ret_fin, RetS_cons]
  refine RetS.nx (M := fun σ w' => ∃ way : Int, 0 ≤ way ∧ way < 6 ∧ PotG w' n j (B + 1) ∧ Upd n j w w' ∧ σ = [some (.ref n), some (.d (.int (most : Int))), some (.d (.int way)), o1, o2, o3, o4, o5, o6]) ?_ ?_
  · simp
    refine Ret.imp (ht hp (by omega) (by decide) (by decide)) ?_
    rintro v w1 ⟨r, rfl, r0, r1, hp1, u1⟩
    exact ⟨r, r0, r1, hp1, u1, rfl⟩
  rintro σ w1 ⟨way, y0, y1, hp1, u1, rfl⟩
  rw [RetS_cons]
  by_cases z : way = 0
  · simp [z]
    refine Ret.imp (ht hp1 (by omega) (by omega) (log_small (k := 100) (by omega) (by decide) (by decide))) ?_
    rintro v w2 ⟨m, rfl, m0, m1, hp2, u2⟩
    obtain ⟨M, hM⟩ : ∃ M : Nat, 1 + m = (M : Int) := ⟨(1 + m).toNat, by omega⟩
    simp [hM, rng_nat (n := M) (by omega)]
    refine ⟨okl _ (by omega), ?_⟩
    refine compL_inv (fun k ys w' => ∃ f, ys = iM f ∧ f.length = k ∧ k ≤ M ∧ (∀ a ∈ f, a.natAbs ≤ 20) ∧ PotG w' n j (B + 2 + k) ∧ Upd n j w w') ⟨[], rfl, rfl, by omega, by simp, hp2, u1.trans u2⟩ ?_ ?_
    · rintro k z ys w' hz ⟨f, rfl, hk, hkM, hf', hp', u'⟩
      have hkM' : k < M := by
        have := (List.getElem?_eq_some_iff.mp hz).1
        simpa using this
      show Ret _ _ (elF true _ _ _ _ _ _)
      rw [Ret_elT]
      simp [wip, okl]
      refine Ret.imp (ht hp' (by omega) (by omega) (by decide)) ?_
      rintro v w3 ⟨u, rfl, q0, q1, hp3, u3⟩
      obtain ⟨a, ha, e⟩ := pickI (q := [0, 1, -1, 3, -4, 7, 20, -20]) q0 q1
      simp only [List.map_cons, List.map_nil] at e
      simp [e]
      refine ⟨f ++ [a], by simp [iM], by simp [hk], hkM', fun x hx => ?_, hp3, u'.trans u3⟩
      rcases List.mem_append.mp hx with q | q
      · exact hf' x q
      · rw [List.mem_singleton.mp q]
        simp at ha; omega
    rintro ys w' ⟨f, rfl, hk, _, hf', hp', u'⟩
    rw [List.length_map, List.length_range] at hk
    simp [hs f w' (by omega), u'.len']
    exact ⟨stripI f, rfl, ⟨HdI_strip f, Nat.le_trans (strip_len f) (by omega), fun a ha => hf' a (List.Sublist.mem ha (List.dropWhile_sublist _))⟩, hp'.mono (by rw [List.length_map, List.length_range]; omega), u'⟩
  refine RetS.nx (M := fun σ w' => w' = w1 ∧ σ = [some (.ref n), some (.d (.int (most : Int))), some (.d (.int way)), o1, o2, o3, o4, o5, o6]) (by simp [z]) ?_
  rintro σ w' ⟨rfl, rfl⟩
  rw [RetS_cons]
  refine RetS.nx (M := fun σ w' => ∃ f : List Int, Dr (most + 1) f ∧ f ≠ [] ∧ PotG w' n j (B + 2) ∧ Upd n j w w' ∧ σ = [some (.ref n), some (.d (.int (most : Int))), some (.d (.int way)), o1, o2, o3, some (.d (iT f)), some (.d (iT [1])), o6]) ?_ ?_
  · simp [okl]
    refine Ret.imp (ht hp1 (by omega) (by omega) (by decide)) ?_
    rintro v w3 ⟨u, rfl, q0, q1, hp3, u3⟩
    obtain ⟨a, ha, e⟩ := pickI (q := [1, 1, 1, 2, -1, -2]) q0 q1
    simp only [List.map_cons, List.map_nil] at e
    simp [e, okl]
    refine ⟨[a], ⟨fun x hx => ?_, by simp, fun x hx => ?_⟩, by simp, hp3, u1.trans u3, rfl, rfl⟩
    · cases hx
      simp at ha; omega
    · simp at hx ha; omega
  rintro σ w2 ⟨f, hd, hf0, hp2, u2, rfl⟩
  rw [RetS_cons]
  refine RetS.nx (M := fun σ w' => ∃ (f : List Int) (x3 x4 x7 : Option IV), Dr (most + 1) f ∧ f ≠ [] ∧ PotG w' n j (B + 30) ∧ Upd n j w w' ∧ σ = [some (.ref n), some (.d (.int (most : Int))), some (.d (.int way)), x3, x4, o3, some (.d (iT f)), x7, o6]) ?_ ?_
  · simp
    refine Ret.imp (ht hp2 (by omega) (by decide) (by decide)) ?_
    rintro v w3 ⟨m, rfl, m0, m1, hp3, u3⟩
    obtain ⟨M, hM⟩ : ∃ M : Nat, 1 + m = (M : Int) := ⟨(1 + m).toNat, by omega⟩
    simp [hM, rng_nat (n := M) (by omega)]
    refine ⟨okl _ (by omega), ?_⟩
    obtain ⟨I, hI⟩ : ∃ I : Nat → Sl → W → Prop, I = (fun k σ w' => ∃ (f p : List Int) (x3 x4 : Option IV), k ≤ M ∧ Dr (most + 1) f ∧ f ≠ [] ∧ HdI p ∧ p ≠ [] ∧ p.length ≤ 3 ∧ (∀ a ∈ p, a.natAbs ≤ 3) ∧ PotG w' n j (B + 3 + 5 * k) ∧ Upd n j w w' ∧ σ = [some (.ref n), some (.d (.int (most : Int))), some (.d (.int way)), x3, x4, o3, some (.d (iT f)), some (.d (iT p)), o6]) := ⟨_, rfl⟩
    refine forL_inv I (by rw [hI]; exact
      ⟨f, [1], _, _, by omega, hd, hf0, fun x hx => by cases hx; decide, by simp, by simp, by simp, hp3, u2.trans u3, rfl⟩) ?_ ?_
    · intro k z σ w' hz hIk
      rw [hI] at hIk
      obtain ⟨f, p, x3, x4, hkM, hd, hf0, hp0, hp1', hpl, hpa, hp', u', rfl⟩ := hIk
      have hkM' : k < M := by
        have := (List.getElem?_eq_some_iff.mp hz).1
        simpa using this
      rw [RetS_body, asg_nm, OptP_some, RetS_cons]
      simp only [List.set_cons_succ, List.set_cons_zero]
      refine RetS.nx (M := fun σ w' => ∃ (p : List Int), HdI p ∧ p ≠ [] ∧ p.length ≤ 3 ∧ (∀ a ∈ p, a.natAbs ≤ 3) ∧ PotG w' n j (B + 3 + 5 * (k + 1)) ∧ Upd n j w w' ∧ σ = [some (.ref n), some (.d (.int (most : Int))), some (.d (.int way)), some (.d z), x4, o3, some (.d (iT f)), some (.d (iT p)), o6]) ?_ ?_
      · simp
        refine Ret.imp (ht hp' (by omega) (by decide) (by decide)) ?_
        rintro v w4 ⟨r, rfl, r0, r1, hp4, u4⟩
        by_cases hr : 0 < r
        · simp [hr]
          refine Ret.imp (hf hp4 (by omega)) ?_
          rintro v w5 ⟨p5, rfl, b1, b2, b3, b4, hp5, u5⟩
          simp
          exact ⟨p5, b1, b2, b3, b4, hp5.mono (by omega), (u'.trans u4).trans u5, rfl⟩
        · simp [hr]
          exact ⟨p, hp0, hp1', hpl, hpa, hp4.mono (by omega), u'.trans u4, rfl⟩
      rintro σ w4 ⟨p, b1, b2, b3, b4, hp4, u4, rfl⟩
      have m1 := hml (f := f) (g := p) (B := 5) (C := 5) w4 hd.sm (fun a ha => by have := b4 a ha; omega) (by decide) (by decide) (by have := hd.len; omega) (by omega)
      have ml : (mulI f p).length = f.length + p.length - 1 := mulI_len hf0 b2
      have f1 := hft (f := mulI f p) (most := (most : Int)) w4 (by have := hd.len; omega)
      simp [m1, f1]
      split
      · rename_i hc
        rw [hI]
        refine ⟨mulI f p, p, _, _, hkM', ?_, ?_, b1, b2, b3, b4, hp4, u4, rfl⟩
        · exact ⟨HdI_mul hd.hd b1, by omega, hc.2⟩
        · intro e
          have := congrArg List.length e
          rw [ml] at this
          have h1 := List.length_pos_iff.mpr hf0
          have h2 := List.length_pos_iff.mpr b2
          simp at this; omega
      · rw [hI]
        exact ⟨f, p, _, _, hkM', hd, hf0, b1, b2, b3, b4, hp4, u4, rfl⟩
    · intro σ w' hIk
      rw [hI] at hIk
      obtain ⟨f, p, x3, x4, hkM, hd, hf0, hp0, hp1', hpl, hpa, hp', u', rfl⟩ := hIk
      refine ⟨f, hd, hf0, hp'.mono (by omega), u', ?_⟩
      simp
  rintro σ w3 ⟨f, x3, x4, x7, hd, hf0, hp3, u3, rfl⟩
  rw [RetS_cons]
  refine RetS.nx (M := fun σ w' => ∃ (a : Int), a.natAbs ≤ 3 ∧ a ≠ 0 ∧ PotG w' n j (B + 31) ∧ Upd n j w w' ∧ σ = [some (.ref n), some (.d (.int (most : Int))), some (.d (.int way)), x3, some (.d (iT (addI f [a]))), o3, some (.d (iT f)), x7, o6]) ?_ ?_
  · simp [okl]
    refine Ret.imp (ht hp3 (by omega) (by decide) (by decide)) ?_
    rintro v w4 ⟨r, rfl, r0, r1, hp4, u4⟩
    obtain ⟨a, ha, e⟩ := pickI (q := [1, -1, 2, -3]) r0 r1
    simp only [List.map_cons, List.map_nil] at e
    have a1 := had (f := f) (g := [a]) w4 (by have := hd.len; omega) (by simp)
    rw [show iT [a] = .tuple [.int a] from rfl] at a1
    simp [e, okl, a1]
    exact ⟨a, by simp at ha; omega, by simp at ha; omega, hp4, u3.trans u4, rfl⟩
  rintro σ w4 ⟨a, ha, ha0, hp4, u4, rfl⟩
  have al : (addI f [a]).length ≤ max f.length 1 := add_len f [a]
  have f1 := hft (f := addI f [a]) (most := (most : Int)) w4 (by have := hd.len; omega)
  by_cases hw : way = 1
  · simp [hw, f1]
    split
    · rename_i hc
      simp [u4.len']
      exact ⟨_, rfl, ⟨HdI_add f [a], by omega, hc.2⟩, hp4.mono (by omega), u4⟩
    · simp [u4.len']
      exact ⟨_, rfl, hd, hp4.mono (by omega), u4⟩
  · simp [hw, u4.len']
    exact ⟨_, rfl, hd, hp4.mono (by omega), u4⟩
end
end Pv
namespace Pv
open PySem
def ivI (f : List Int) (n : Int) : Int := f.foldl (fun t a => t * n + a) 0
theorem ivI_snoc (f : List Int) (a n : Int) : ivI (f ++ [a]) n = ivI f n * n + a := by
  unfold ivI; rw [List.foldl_append]; rfl
theorem ivI_take {f : List Int} {k : Nat} {a n : Int} (h : f[k]? = some a) : ivI (f.take (k + 1)) n = ivI (f.take k) n * n + a := by
  rw [take_snoc h, ivI_snoc]
theorem ivI_vl (n : Int) : ∀ (f : List Int) (t : Int), ((f.foldl (fun t a => t * n + a) t : Int) : Rat) = (toR f).foldl (fun u a => u * (n : Rat) + a) (t : Rat)
  | [], t => rfl
  | a :: f, t => by
    show ((f.foldl (fun t a => t * n + a) (t * n + a) : Int) : Rat) = (toR f).foldl (fun u a => u * (n : Rat) + a) ((t : Rat) * (n : Rat) + (a : Rat))
    rw [ivI_vl n f, Rat.intCast_add, Rat.intCast_mul]
theorem iv_vl (f : List Int) (n : Int) : (ivI f n : Rat) = vl (toR f) (n : Rat) := ivI_vl n f 0
section
variable {E : En} {w : W} {o o1 o2 o3 o4 o5 : Option IV} {f g : List Int} {i1 i2 : Nat}
theorem at_integer_ok {B C : Nat} {n : Int} (hf : Sm B f) (hn : n.natAbs < 2 ^ C) (hC1 : 1 ≤ C) (lf : f.length ≤ 400) (hB : B ≤ 8000) (hC : C ≤ 8000) (hCl : C * 400 ≤ 1000000) :
    fin w.length (evS E B_at_integer [some (.d (iT f)), some (.d (.int n)), o, o1] w) = .ok (.d (.int (ivI f n))) w := by
  refine Ret.eq (X := fun _ _ _ => False) ?_ (fun _ _ _ h => h)
  unfold B_at_integer
  rw [Ret_fin, RetS_cons]
  refine RetS.nx (M := fun σ w' => w' = w ∧ σ = [some (.d (iT f)), some (.d (.int n)), some (.d (.int 0)), o1]) (by simp) ?_
  rintro σ w' ⟨rfl, rfl⟩
  rw [RetS_cons]
  refine RetS.nx (M := fun σ w2 => w2 = w' ∧ ∃ x3, σ = [some (.d (iT f)), some (.d (.int n)), some (.d (.int (ivI f n))), x3]) ?_ ?_
  · simp [show toIt w' (.d (iT f)) = some (.dat (iM f)) from rfl]
    refine ⟨decide_eq_true (by omega), ?_⟩
    refine forL_inv (fun k σ w2 => w2 = w' ∧ ∃ x3, (ivI (f.take k) n).natAbs ≤ k * 2 ^ (B + C * k) ∧ σ = [some (.d (iT f)), some (.d (.int n)), some (.d (.int (ivI (f.take k) n))), x3]) ⟨rfl, _, by simp [ivI], rfl⟩ ?_ ?_
    · rintro k z σ w2 hz ⟨rfl, x3, ht, rfl⟩
      obtain ⟨a, ha, rfl⟩ : ∃ a, f[k]? = some a ∧ z = .int a := by
        unfold iM at hz
        rw [List.getElem?_map] at hz
        cases q : f[k]? with
        | none => rw [q] at hz; cases hz
        | some a => rw [q] at hz; cases hz; exact ⟨a, rfl, rfl⟩
      have hkf : k < f.length := (List.getElem?_eq_some_iff.mp ha).1
      have hmono : C * k ≤ 1000000 := Nat.le_trans (Nat.mul_le_mul_left C (by omega : k ≤ 400)) hCl
      have on : okI n = true := okI_pow hn (by omega)
      have ot : okI (ivI (f.take k) n) = true := okI_pow (m := B + C * k + 10) (by
        refine Nat.lt_of_le_of_lt ht ?_
        rw [Nat.pow_add _ (B + C * k) 10, Nat.mul_comm]
        exact (Nat.mul_lt_mul_left (Nat.two_pow_pos _)).mpr (by omega)) (by omega)
      rw [RetS_body, asg_nm, OptP_some]
      simp [ot, on]
      have s1 := size_step (k := k) (q := 1) (b := 1) (B := B) (C := C) (p := n) (a := a) ht (by have := Nat.one_le_two_pow (n := C * k); omega) (hf a (List.mem_of_getElem? ha)) hn (Nat.lt_of_lt_of_le (by decide : (1 : Int).natAbs < 2 ^ 1) (Nat.pow_le_pow_right (by decide) hC1))
      rw [ivI_take ha]
      refine ⟨?_, rfl⟩
      have := s1.1
      simpa using this
    · rintro σ w2 ⟨rfl, x3, ht, rfl⟩
      rw [iM_len, List.take_length, Nx_next]
      refine ⟨rfl, x3, rfl⟩
  · rintro σ w2 ⟨rfl, x3, rfl⟩
    simp [take_len]
def dvr (f : List Int) : Nat := (List.range f.length).foldl (fun g (k : Nat) => Nat.gcd g (ivI f k).natAbs) 0
theorem fold_take {α β : Type} (h : β → α → β) (b : β) {l : List α} {k : Nat} {a : α} (e : l[k]? = some a) : (l.take (k + 1)).foldl h b = h ((l.take k).foldl h b) a := by
  rw [List.take_succ, e, List.foldl_append]; rfl
theorem divisor_ok {B : Nat} (hf : Sm B f) (lf : f.length ≤ 400) (hB : B ≤ 8000) (hc : ∀ w : W, E.Φ i1 [.d (iT f)] w = .ok (.d .none) w)
    (ha : ∀ (n : Int) (w : W), n.natAbs < 2 ^ 20 → E.Φ i2 [.d (iT f), .d (.int n)] w = .ok (.d (.int (ivI f n))) w) :
    fin w.length (evS E (B_divisor i1 i2) [some (.d (iT f)), o, o1] w) = .ok (.d (.int (dvr f : Nat))) w := by
  refine Ret.eq (X := fun _ _ _ => False) ?_ (fun _ _ _ h => h)
  have ln' : ∀ h : List Int, bltD .len [iT h] = some (.int h.length) := fun h => by show some (PyData.int ((iM h).length : Int)) = _; rw [iM_len]
  have gd : ∀ a b : Int, bltD .gcd [.int a, .int b] = some (.int ((Nat.gcd a.natAbs b.natAbs : Nat) : Int)) := fun _ _ => rfl
  unfold B_divisor
  rw [Ret_fin, RetS_cons]
  refine RetS.nx (M := fun σ w' => w' = w ∧ σ = [some (.d (iT f)), o, o1]) (by simp [hc]) ?_
  rintro σ w' ⟨rfl, rfl⟩
  rw [RetS_cons]
  refine RetS.nx (M := fun σ w2 => w2 = w' ∧ σ = [some (.d (iT f)), some (.d (.int 0)), o1]) (by simp) ?_
  rintro σ w2 ⟨rfl, rfl⟩
  rw [RetS_cons]
  refine RetS.nx (M := fun σ w3 => w3 = w2 ∧ ∃ x2, σ = [some (.d (iT f)), some (.d (.int (dvr f : Nat))), x2]) ?_ ?_
  · simp [ln', rng_nat (n := f.length) (by omega)]
    refine ⟨decide_eq_true (by omega), ?_⟩
    refine forL_inv (fun k σ w3 => w3 = w2 ∧ ∃ x2, σ = [some (.d (iT f)), some (.d (.int ((((List.range f.length).take k).foldl (fun g (k : Nat) => Nat.gcd g (ivI f k).natAbs) 0 : Nat)))), x2]) ⟨rfl, _, rfl⟩ ?_ ?_
    · rintro k z σ w3 hz ⟨rfl, x2, rfl⟩
      obtain ⟨hk, rfl⟩ := range_get hz
      rw [RetS_body, asg_nm, OptP_some]
      simp [ha (k : Int) w3 (by omega), gd]
      rw [Nat.min_eq_left (by omega), Nat.min_eq_left (by omega), List.range_succ, List.foldl_append]
      rfl
    · rintro σ w3 ⟨rfl, x2, rfl⟩
      rw [Nx_next]
      refine ⟨rfl, x2, ?_⟩
      rw [List.length_map, List.length_range, List.take_of_length_le (by rw [List.length_range]; exact Nat.le_refl _)]
      rfl
  · rintro σ w3 ⟨rfl, x2, rfl⟩
    simp [take_len]
def bBothN (N : Int) : St := (.cons (.par [0, 1] (.cons (.blt .abs (.cons (.var 0) .nil)) (.cons (.blt .abs (.cons (.var 1) .nil)) .nil))) (.cons (.for_ (.nm 2) (.rng (.cons (.cst (.int N)) .nil)) (.cons (.ifs (.cmp .Eq (.var 1) (.cst (.int (0)))) (.cons .brk .nil) .nil) (.cons (.par [0, 1] (.cons (.var 1) (.cons (.bin .Mod (.blt .int (.cons (.var 0) .nil)) (.var 1)) .nil))) .nil))) (.cons (.ret (.var 0)) .nil)))
theorem both_gen {N : Nat} (hN : N = 100000) {t b : Int} (h1 : t.natAbs < 2 ^ 49000) (h2 : b.natAbs < 2 ^ 9000) :
    fin w.length (evS E (bBothN (N : Int)) [some (.d (.int t)), some (.d (.int b)), o] w) = .ok (.d (.int ((Nat.gcd t.natAbs b.natAbs : Nat) : Int))) w := by
  refine Ret.eq (X := fun _ _ _ => False) ?_ (fun _ _ _ h => h)
  have hP : t.natAbs * b.natAbs < 2 ^ 99999 := by
    calc t.natAbs * b.natAbs < 2 ^ 49000 * 2 ^ 9000 := Nat.mul_lt_mul'' h1 h2
      _ = 2 ^ 58000 := by rw [← Nat.pow_add]
      _ ≤ 2 ^ 99999 := Nat.pow_le_pow_right (by decide) (by decide)
  rw [Ret_fin]
  unfold bBothN
  rw [RetS_cons]
  have ab : ∀ i : Int, (if i < 0 then -i else i) = (i.natAbs : Int) := fun i => by split <;> omega
  simp only [evS_par, RetS_onE, evA_cons, evA_nil, Ret_bind, Ret_blt, ev_var, Ret_ofO, slot_cons, slot_cons0, OptP_some, Ret_ok, rdAll_cons, rdAll_nil, rd_d, Option.bind_some, Option.map_some, abs_i, RetS_ofS, setAll_cons, setAll_nil, sq_next, ab]
  rw [RetS_cons]
  simp only [List.set_cons_succ, List.set_cons_zero]
  obtain ⟨M, hM⟩ : ∃ M : Sl → W → Prop, M = fun σ w' => ∃ x : Option IV, σ = [some (.d (.int (Nat.gcd t.natAbs b.natAbs : Nat))), some (.d (.int 0)), x] ∧ w' = w := ⟨_, rfl⟩
  refine RetS.nx (M := M) ?_ ?_
  · rw [hM, RetS_for, Ret_rng]
    simp only [evA_cons, evA_nil, ev_cst, Ret_bind, Ret_ok, purs_cons, purs_nil, Option.map_some, OptP_some]
    have hr : rngD [.int (N : Int)] = some ((List.range N).map fun (k : Nat) => .int k) := rng_nat (by omega)
    rw [hr, OptP_some, forP_dat]
    refine ⟨by rw [List.length_map, List.length_range, hN]; decide, ?_⟩
    refine forL_inv (fun k σ w' => w' = w ∧ ∃ (x : Option IV) (one other : Nat), σ = [some (.d (.int one)), some (.d (.int other)), x] ∧ ((one = 0 ∧ other = 0 ∧ Nat.gcd t.natAbs b.natAbs = 0) ∨ Eu t.natAbs b.natAbs k one other)) ⟨rfl, _, _, _, rfl, ?_⟩ ?_ ?_
    · by_cases h0 : t.natAbs = 0 ∧ b.natAbs = 0
      · exact .inl ⟨h0.1, h0.2, by rw [h0.1, h0.2]; rfl⟩
      · exact .inr ⟨rfl, by omega, rfl, rfl⟩
    · rintro k z σ w' hz ⟨rfl, x, one, other, rfl, he⟩
      rw [RetS_body, asg_nm, OptP_some]
      simp
      by_cases h0 : other = 0
      · subst h0
        simp
        rcases he with ⟨h1, _, h2⟩ | he
        · rw [h2, h1]
        · rw [← he.1, Nat.gcd_zero_right]
      · simp [h0]
        have e1 : (one : Int).fmod (other : Int) = ((one % other : Nat) : Int) := by
          rw [Int.fmod_eq_emod_of_nonneg _ (by omega)]; rfl
        rw [e1]
        rcases he with ⟨_, h1, _⟩ | he
        · exact absurd h1 h0
        · exact ⟨_, _, _, ⟨rfl, rfl, rfl⟩, .inr (he.step (by omega))⟩
    · rintro σ w' ⟨rfl, x, one, other, rfl, he⟩
      rw [Nx_next]
      rw [List.length_map, List.length_range, hN] at he
      rcases he with ⟨h1, h2, h3⟩ | he
      · exact ⟨x, by rw [h1, h2, h3]; rfl, rfl⟩
      · have h0 := he.done hP
        subst h0
        exact ⟨x, by rw [← he.1, Nat.gcd_zero_right]; rfl, rfl⟩
  · rw [hM]
    rintro σ w' ⟨x, rfl, rfl⟩
    simp [take_len]
theorem both_ok' {t b : Int} (h1 : t.natAbs < 2 ^ 49000) (h2 : b.natAbs < 2 ^ 9000) :
    fin w.length (evS E B_law_both [some (.d (.int t)), some (.d (.int b)), o] w) = .ok (.d (.int ((Nat.gcd t.natAbs b.natAbs : Nat) : Int))) w := both_gen (N := 100000) rfl h1 h2
end
end Pv
namespace Pv
def df (F : Int → Int) (n : Int) : Int := F (n + 1) - F n
def dfs : Nat → (Int → Int) → (Int → Int)
  | 0, F => F
  | k + 1, F => dfs k (df F)
theorem df_dvd {F : Int → Int} {g : Int} (h0 : g ∣ F 0) (h : ∀ n, g ∣ df F n) : ∀ n : Int, g ∣ F n := by
  have up : ∀ k : Nat, g ∣ F (k : Int) := fun k => by
    induction k with
    | zero => exact h0
    | succ k ih =>
      have e : F ((k + 1 : Nat) : Int) = F (k : Int) + df F (k : Int) := by
        unfold df
        have : ((k + 1 : Nat) : Int) = (k : Int) + 1 := by omega
        rw [this]; omega
      rw [e]; exact Int.dvd_add ih (h _)
  have down : ∀ k : Nat, g ∣ F (-(k : Int)) := fun k => by
    induction k with
    | zero => exact h0
    | succ k ih =>
      have e : F (-((k + 1 : Nat) : Int)) = F (-(k : Int)) - df F (-((k + 1 : Nat) : Int)) := by
        unfold df
        have : -((k + 1 : Nat) : Int) + 1 = -(k : Int) := by omega
        rw [this]; omega
      rw [e]; exact Int.dvd_sub ih (h _)
  intro n
  rcases Int.le_total 0 n with hn | hn
  · have := up n.toNat
    rwa [Int.toNat_of_nonneg hn] at this
  · have := down (-n).toNat
    rw [Int.toNat_of_nonneg (by omega), Int.neg_neg] at this
    exact this
theorem dfs_dvd {g : Int} : ∀ (k : Nat) (F : Int → Int), (∀ n, dfs k F n = 0) → (∀ i : Nat, i < k → g ∣ F (i : Int)) → ∀ n, g ∣ F n
  | 0, F, h, _, n => by rw [show F n = 0 from h n]; exact Int.dvd_zero g
  | k + 1, F, h, h0, n => by
    have hd := dfs_dvd k (df F) h fun i hi => by
      unfold df
      have := h0 (i + 1) (by omega)
      rw [show ((i + 1 : Nat) : Int) = (i : Int) + 1 by omega] at this
      exact Int.dvd_sub this (h0 i (by omega))
    exact df_dvd (h0 0 (by omega)) hd n
theorem dfs_add : ∀ (k : Nat) (F G : Int → Int) (n : Int), dfs k (fun x => F x + G x) n = dfs k F n + dfs k G n
  | 0, _, _, _ => rfl
  | k + 1, F, G, n => by
    show dfs k (df fun x => F x + G x) n = dfs k (df F) n + dfs k (df G) n
    rw [← dfs_add k]
    congr 1
    funext x
    simp only [df]
    omega
theorem dfs_zero : ∀ (k : Nat) (n : Int), dfs k (fun _ => 0) n = 0
  | 0, _ => rfl
  | k + 1, n => by
    show dfs k (df fun _ => 0) n = 0
    rw [show (df fun _ => 0) = fun _ => 0 from funext fun x => by simp [df]]
    exact dfs_zero k n
theorem dfs_const (c : Int) : ∀ (k : Nat) (n : Int), dfs (k + 1) (fun _ => c) n = 0 := fun k n => by
  show dfs k (df fun _ => c) n = 0
  rw [show (df fun _ => c) = fun _ => 0 from funext fun x => by simp [df]]
  exact dfs_zero k n
theorem dfs_mulx : ∀ (k : Nat) (F : Int → Int) (n : Int), dfs (k + 1) (fun x => F x * x) n = dfs (k + 1) F n * n + (k + 1 : Nat) * dfs k F (n + 1)
  | 0, F, n => by
    show df (fun x => F x * x) n = df F n * n + 1 * F (n + 1)
    simp only [df]
    grind
  | k + 1, F, n => by
    show dfs (k + 1) (df fun x => F x * x) n = dfs (k + 1) (df F) n * n + ((k + 1 + 1 : Nat) : Int) * dfs k (df F) (n + 1)
    have e : (df fun x => F x * x) = fun x => df F x * x + F (x + 1) := funext fun x => by
      simp only [df]
      grind
    rw [e, dfs_add, dfs_mulx k (df F) n]
    have sh : ∀ (k : Nat) (F : Int → Int) (n : Int), dfs k (fun x => F (x + 1)) n = dfs k F (n + 1) := fun k => by
      induction k with
      | zero => intro F n; rfl
      | succ k ih =>
        intro F n
        show dfs k (df fun x => F (x + 1)) n = dfs k (df F) (n + 1)
        rw [← ih]
        rfl
    rw [sh]
    show _ + dfs k (df F) (n + 1) = _
    have : ((k + 1 + 1 : Nat) : Int) = ((k + 1 : Nat) : Int) + 1 := by omega
    rw [this, Int.add_mul]; omega
theorem dfs_step : ∀ (k : Nat) (F : Int → Int) (n : Int), dfs (k + 1) F n = dfs k F (n + 1) - dfs k F n
  | 0, _, _ => rfl
  | k + 1, F, n => dfs_step k (df F) n
def fct : Nat → Nat
  | 0 => 1
  | m + 1 => (m + 1) * fct m
theorem fct_pos : ∀ m, 0 < fct m
  | 0 => by decide
  | m + 1 => Nat.mul_pos (by omega) (fct_pos m)
theorem dfs_row : ∀ (m : Nat) (f : List Int), f.length = m + 1 → ∀ n, dfs m (ivI f) n = (fct m : Nat) * f.headD 0
  | 0, f, h, n => by
    match f, h with
    | [a], _ =>
      show ivI [a] n = ((1 : Nat) : Int) * a
      unfold ivI
      simp
  | m + 1, f, h, n => by
    have hne : f ≠ [] := by intro e; rw [e] at h; simp at h
    obtain ⟨f', c, rfl⟩ : ∃ f' c, f = f' ++ [c] := ⟨f.dropLast, f.getLast hne, (List.dropLast_concat_getLast hne).symm⟩
    have hl : f'.length = m + 1 := by simpa using h
    have ih := dfs_row m f' hl
    have e : ivI (f' ++ [c]) = fun x => ivI f' x * x + (fun _ => c) x := funext fun x => ivI_snoc f' c x
    rw [e, dfs_add, dfs_mulx, dfs_const, dfs_step, ih, ih]
    have hh : (f' ++ [c]).headD 0 = f'.headD 0 := by
      cases f' with
      | nil => simp at hl
      | cons a r => rfl
    rw [hh]
    show _ = (((m + 1) * fct m : Nat) : Int) * _
    rw [Int.natCast_mul]
    grind
theorem dfs_over (f : List Int) : ∀ n, dfs f.length (ivI f) n = 0 := fun n => by
  cases hf : f with
  | nil => rfl
  | cons a r =>
    show dfs (r.length + 1) (ivI (a :: r)) n = 0
    rw [dfs_step, dfs_row r.length (a :: r) rfl, dfs_row r.length (a :: r) rfl]
    omega
theorem fold_gcd {F : Nat → Nat} : ∀ (l : List Nat) (b : Nat) (d : Nat), d ∣ l.foldl (fun g k => Nat.gcd g (F k)) b ↔ d ∣ b ∧ ∀ k ∈ l, d ∣ F k
  | [], b, d => by simp
  | a :: l, b, d => by
    rw [List.foldl_cons, fold_gcd l, Nat.dvd_gcd_iff]
    simp only [List.mem_cons, forall_eq_or_imp]
    constructor
    · rintro ⟨⟨h1, h2⟩, h3⟩; exact ⟨h1, h2, h3⟩
    · rintro ⟨h1, h2, h3⟩; exact ⟨⟨h1, h2⟩, h3⟩
theorem dvr_dvd {f : List Int} {d : Nat} : d ∣ dvr f ↔ ∀ n : Int, (d : Int) ∣ ivI f n := by
  unfold dvr
  rw [fold_gcd]
  constructor
  · rintro ⟨_, h⟩
    refine dfs_dvd f.length (ivI f) (dfs_over f) fun i hi => ?_
    have := h i (List.mem_range.mpr hi)
    exact Int.ofNat_dvd_left.mpr this
  · intro h
    exact ⟨Nat.dvd_zero d, fun k _ => Int.ofNat_dvd_left.mp (h k)⟩
theorem dvr_zero {f : List Int} (hd : HdI f) : dvr f = 0 ↔ f = [] := by
  constructor
  · intro h
    cases hf : f with
    | nil => rfl
    | cons a r =>
      exfalso
      have h0 : ∀ n, ivI f n = 0 := fun n => by
        have := (dvr_dvd (f := f) (d := 0)).mp (by rw [h]; exact Nat.dvd_refl 0) n
        exact Int.zero_dvd.mp this
      have h1 := dfs_row r.length f (by rw [hf]; rfl) 0
      have h2 : dfs r.length (ivI f) 0 = 0 := by
        rw [show ivI f = fun _ => 0 from funext h0]
        exact dfs_zero r.length 0
      rw [h2, hf] at h1
      have ha : a ≠ 0 := hd a (by rw [hf]; rfl)
      have := fct_pos r.length
      rcases Int.mul_eq_zero.mp h1.symm with q | q
      · omega
      · exact ha q
  · rintro rfl; rfl
end Pv
namespace Pv
open PySem
def Per (f : List Int) (m p : Int) : Prop := ∀ n : Int, m ∣ ivI f (n + p) - ivI f n
theorem iv_cong (n d : Int) : ∀ (f : List Int) (t u m : Int), m ∣ d → m ∣ t - u → m ∣ f.foldl (fun t a => t * (n + d) + a) t - f.foldl (fun t a => t * n + a) u
  | [], _, _, _, _, h => h
  | a :: f, t, u, m, hd, h => by
    refine iv_cong n d f _ _ m hd ?_
    have e : t * (n + d) + a - (u * n + a) = (t - u) * n + t * d := by grind
    rw [e]
    exact Int.dvd_add (Int.dvd_trans h (Int.dvd_mul_right _ _)) (Int.dvd_trans hd (Int.dvd_mul_left _ _))
theorem per_self (f : List Int) (m : Int) : Per f m m := fun n => iv_cong n m f 0 0 m (Int.dvd_refl m) (by simp)
theorem Per.add {f : List Int} {m p q : Int} (hp : Per f m p) (hq : Per f m q) : Per f m (p + q) := fun n => by
  have a := hp (n + q)
  have b := hq n
  rw [show n + q + p = n + (p + q) by omega] at a
  have := Int.dvd_add a b
  rwa [show ivI f (n + (p + q)) - ivI f (n + q) + (ivI f (n + q) - ivI f n) = ivI f (n + (p + q)) - ivI f n by omega] at this
theorem Per.neg {f : List Int} {m p : Int} (hp : Per f m p) : Per f m (-p) := fun n => by
  have a := hp (n + -p)
  rw [show n + -p + p = n by omega] at a
  have := Int.dvd_neg.mpr a
  rwa [show -(ivI f n - ivI f (n + -p)) = ivI f (n + -p) - ivI f n by omega] at this
theorem per_zero (f : List Int) (m : Int) : Per f m 0 := fun n => by
  rw [show n + 0 = n by omega, Int.sub_self]; exact Int.dvd_zero m
theorem Per.nmul {f : List Int} {m p : Int} (hp : Per f m p) : ∀ k : Nat, Per f m (p * k)
  | 0 => by rw [show p * ((0 : Nat) : Int) = 0 by simp]; exact per_zero f m
  | k + 1 => by
    have := (Per.nmul hp k).add hp
    rwa [show p * (k : Int) + p = p * ((k + 1 : Nat) : Int) by rw [Int.natCast_succ, Int.mul_add, Int.mul_one]] at this
theorem Per.mul {f : List Int} {m p : Int} (hp : Per f m p) (k : Int) : Per f m (p * k) := by
  by_cases h : 0 ≤ k
  · have := hp.nmul k.toNat
    rwa [Int.toNat_of_nonneg h] at this
  · have := (hp.nmul (-k).toNat).neg
    rw [Int.toNat_of_nonneg (by omega)] at this
    rwa [show -(p * -k) = p * k by rw [Int.mul_neg, Int.neg_neg]] at this
theorem Per.mod {f : List Int} {m p q : Int} (hp : Per f m p) (hq : Per f m q) : Per f m (q % p) := by
  have := hq.add (hp.mul (-(q / p)))
  rwa [show q + p * -(q / p) = q % p by rw [Int.mul_neg, Int.emod_def]; omega] at this
structure IsPer (f : List Int) (m T : Nat) : Prop where
  t1 : 1 ≤ T
  dv : T ∣ m
  per : Per f m T
  le : ∀ q : Int, Per f m q → (T : Int) ∣ q
theorem isper_of {f : List Int} {m T : Nat} (hm : 1 ≤ m) (t1 : 1 ≤ T) (dv : T ∣ m) (per : Per f m T) (least : ∀ j : Nat, 1 ≤ j → j < T → j ∣ m → ¬ Per f m j) : IsPer f m T := by
  have base : ∃ s : Nat, 1 ≤ s ∧ Per f m s ∧ ∀ j : Nat, 1 ≤ j → j < s → ¬ Per f m j := by
    classical
    have : ∀ n : Nat, 1 ≤ n → Per f m n → ∃ s : Nat, 1 ≤ s ∧ Per f m s ∧ ∀ j : Nat, 1 ≤ j → j < s → ¬ Per f m j := fun n => by
      induction n using Nat.strongRecOn with
      | ind n ih =>
        intro h1 h2
        by_cases q : ∃ j, 1 ≤ j ∧ j < n ∧ Per f m (j : Nat)
        · obtain ⟨j, a, b, d⟩ := q
          exact ih j b a d
        · exact ⟨n, h1, h2, fun j a b d => q ⟨j, a, b, d⟩⟩
    exact this T t1 per
  obtain ⟨s, s1, sp, sl⟩ := base
  have all : ∀ q : Int, Per f m q → (s : Int) ∣ q := fun q hq => by
    have r := sp.mod hq
    have r0 := Int.emod_nonneg q (show (s : Int) ≠ 0 by omega)
    have r1 := Int.emod_lt_of_pos q (show (0 : Int) < s by omega)
    by_cases z : q % (s : Int) = 0
    · exact Int.dvd_of_emod_eq_zero z
    · have := sl (q % (s : Int)).toNat (by omega) (by omega)
      rw [Int.toNat_of_nonneg r0] at this
      exact absurd r this
  have sm : s ∣ m := Int.ofNat_dvd.mp (all m (per_self f m))
  have sT : s ∣ T := Int.ofNat_dvd.mp (all T per)
  have e : s = T := by
    have := Nat.le_of_dvd (by omega) sT
    by_cases q : s = T
    · exact q
    · exact absurd sp (least s s1 (by omega) sm)
  subst e
  exact ⟨t1, dv, per, all⟩
theorem IsPer.uniq {f : List Int} {m T S : Nat} (h : IsPer f m T) (g : IsPer f m S) : T = S :=
  Nat.dvd_antisymm (Int.ofNat_dvd.mp (h.le S g.per)) (Int.ofNat_dvd.mp (g.le T h.per))
theorem IsPer.lcm {f : List Int} {m k T S U : Nat} (h : IsPer f m T) (g : IsPer f k S) (u : IsPer f (m * k) U) (co : Nat.gcd m k = 1) : U = T * S / Nat.gcd T S := by
  have dm : ∀ q : Int, Per f ((m * k : Nat) : Int) q → Per f m q ∧ Per f k q := fun q hq =>
    ⟨fun n => Int.dvd_trans (Int.ofNat_dvd.mpr (Nat.dvd_mul_right m k)) (hq n), fun n => Int.dvd_trans (Int.ofNat_dvd.mpr (Nat.dvd_mul_left k m)) (hq n)⟩
  have up : ∀ q : Int, Per f m q → Per f k q → Per f ((m * k : Nat) : Int) q := fun q h1 h2 n => by
    have a := Int.natAbs_dvd_natAbs.mpr (h1 n)
    have b := Int.natAbs_dvd_natAbs.mpr (h2 n)
    exact Int.natAbs_dvd_natAbs.mp (Nat.Coprime.mul_dvd_of_dvd_of_dvd co a b)
  obtain ⟨um, uk⟩ := dm U u.per
  have a : T ∣ U := Int.ofNat_dvd.mp (h.le U um)
  have b : S ∣ U := Int.ofNat_dvd.mp (g.le U uk)
  have l1 : Nat.lcm T S ∣ U := Nat.lcm_dvd a b
  have l2 : Per f ((m * k : Nat) : Int) (Nat.lcm T S : Nat) := by
    obtain ⟨x, hx⟩ := Nat.dvd_lcm_left T S
    obtain ⟨y, hy⟩ := Nat.dvd_lcm_right T S
    refine up _ ?_ ?_
    · rw [hx, Int.natCast_mul]; exact h.per.mul x
    · rw [hy, Int.natCast_mul]; exact g.per.mul y
  have l3 := Int.ofNat_dvd.mp (u.le _ l2)
  exact Nat.dvd_antisymm l3 l1
def rem (f : List Int) (m : Nat) (n : Int) : Int := (ivI f n).fmod m
def rowR (f : List Int) (m k : Nat) : List Int := (List.range k).map fun (n : Nat) => rem f m n
theorem rowR_len (f : List Int) (m k : Nat) : (rowR f m k).length = k := by unfold rowR; rw [List.length_map, List.length_range]
theorem rowR_get {f : List Int} {m k n : Nat} (h : n < k) : (rowR f m k)[n]? = some (rem f m n) := by
  unfold rowR; rw [List.getElem?_map, List.getElem?_range h]; rfl
theorem rem_eq {f : List Int} {m : Nat} (hm : 1 ≤ m) {a b : Int} : rem f m a = rem f m b ↔ (m : Int) ∣ ivI f a - ivI f b := by
  unfold rem
  rw [Int.fmod_eq_emod_of_nonneg _ (by omega), Int.fmod_eq_emod_of_nonneg _ (by omega)]
  exact Int.emod_eq_emod_iff_emod_sub_eq_zero.trans Int.dvd_iff_emod_eq_zero.symm
theorem rem_lt {f : List Int} {m : Nat} (hm : 1 ≤ m) (a : Int) : 0 ≤ rem f m a ∧ rem f m a < m := by
  unfold rem
  rw [Int.fmod_eq_emod_of_nonneg _ (by omega)]
  exact ⟨Int.emod_nonneg _ (by omega), Int.emod_lt_of_pos _ (by omega)⟩
theorem per_row {f : List Int} {m p : Nat} (hm : 1 ≤ m) (p1 : 1 ≤ p) (hp : p ∣ m) : Per f m p ↔ ∀ n : Nat, n + p < m → rem f m ((n + p : Nat) : Int) = rem f m n := by
  constructor
  · intro h n _
    rw [rem_eq hm]
    have := h n
    rwa [show (n : Int) + (p : Int) = ((n + p : Nat) : Int) by omega] at this
  · intro h
    have self : ∀ n k : Int, rem f m (n + m * k) = rem f m n := fun n k => by
      rw [rem_eq hm]; exact (per_self f m).mul k n
    have steps : ∀ (j n : Nat), n + j * p < m → rem f m ((n + j * p : Nat) : Int) = rem f m n := fun j => by
      induction j with
      | zero => intro n _; rw [Nat.zero_mul, Nat.add_zero]
      | succ j ih =>
        intro n hn
        rw [Nat.succ_mul] at hn ⊢
        rw [← Nat.add_assoc, h (n + j * p) (by omega), ih n (by omega)]
    have inner : ∀ r : Nat, r < m → rem f m ((r : Int) + p) = rem f m r := fun r hr => by
      by_cases q : r + p < m
      · have := h r q
        rwa [Int.natCast_add] at this
      · obtain ⟨t, ht⟩ := hp
        have t1 : 1 ≤ t := by
          by_cases z : t = 0
          · subst z; omega
          · omega
        have e1 : m = p + (t - 1) * p := by
          rw [ht]
          obtain ⟨s, rfl⟩ : ∃ s, t = s + 1 := ⟨t - 1, by omega⟩
          rw [Nat.add_sub_cancel, Nat.mul_comm p, Nat.succ_mul]; omega
        have s1 := steps (t - 1) (r + p - m) (by omega)
        rw [show r + p - m + (t - 1) * p = r by omega] at s1
        rw [s1]
        have s2 := self ((r : Int) + p) (-1)
        rw [← s2]
        congr 1
        omega
    intro n
    rw [← rem_eq hm]
    have r0 := Int.emod_nonneg n (show (m : Int) ≠ 0 by omega)
    have r1 := Int.emod_lt_of_pos n (show (0 : Int) < m by omega)
    have k := inner (n % (m : Int)).toNat (by omega)
    rw [Int.toNat_of_nonneg r0] at k
    have a := self (n % (m : Int)) (n / (m : Int))
    have b := self (n % (m : Int) + p) (n / (m : Int))
    have e := Int.emod_add_mul_ediv n (m : Int)
    rw [e] at a
    rw [show n % (m : Int) + p + m * (n / (m : Int)) = n + p by omega] at b
    rw [a, b, k]
theorem IsPer.at_ {f : List Int} {m T : Nat} (hm : 1 ≤ m) (h : IsPer f m T) (n : Int) : rem f m (n.fmod T) = rem f m n := by
  have t1 := h.t1
  rw [rem_eq hm, Int.fmod_eq_emod_of_nonneg _ (by omega)]
  have := h.per.mul (-(n / (T : Int))) n
  rwa [show n + (T : Int) * -(n / (T : Int)) = n % (T : Int) by rw [Int.mul_neg, Int.emod_def]; omega] at this
theorem IsPer.alike {f : List Int} {m T : Nat} (hm : 1 ≤ m) (h : IsPer f m T) : rowR f m T = [0] ↔ m ∣ dvr f := by
  rw [dvr_dvd]
  constructor
  · intro e n
    have t1 : T = 1 := by have := congrArg List.length e; rw [rowR_len] at this; exact this
    subst t1
    have z : rem f m 0 = 0 := by
      have := rowR_get (f := f) (m := m) (k := 1) (n := 0) (by decide)
      rw [e] at this
      injection this with this
      exact this.symm
    have a := h.at_ hm n
    rw [show n.fmod ((1 : Nat) : Int) = 0 by rw [Int.fmod_eq_emod_of_nonneg _ (by decide)]; exact Int.emod_one n, z] at a
    unfold rem at a
    rw [Int.fmod_eq_emod_of_nonneg _ (by omega)] at a
    exact Int.dvd_of_emod_eq_zero a.symm
  · intro hd
    have z : ∀ n, rem f m n = 0 := fun n => by
      unfold rem
      rw [Int.fmod_eq_emod_of_nonneg _ (by omega)]
      exact Int.emod_eq_zero_of_dvd (hd n)
    have p1 : Per f m ((1 : Nat) : Int) := fun n => by rw [← rem_eq hm, z, z]
    have t1 : T = 1 := Nat.dvd_one.mp (Int.ofNat_dvd.mp (h.le _ p1))
    subst t1
    show [rem f m ((0 : Nat) : Int)] = [0]
    rw [z]
end Pv
namespace Pv
open PySem
theorem sameD_facts : ∀ {n : Nat} {x : D}, SameD n x → PyData.eqv x x = true ∧ x.plain = true ∧ x.depth ≤ n := by
  intro n
  induction n with
  | zero =>
    intro x h
    cases h with
    | non => exact ⟨by simp [PyData.eqv], rfl, Nat.le_refl _⟩
    | bl b => exact ⟨by simp [PyData.eqv], rfl, Nat.le_refl _⟩
    | int i => exact ⟨by simp [PyData.eqv], rfl, Nat.le_refl _⟩
    | str x => exact ⟨by simp [PyData.eqv], rfl, Nat.le_refl _⟩
  | succ n ih =>
    intro x h
    have all : ∀ xs : List D, (∀ y ∈ xs, SameD n y) → PyData.eqvAll xs xs = true ∧ PyData.plainAll xs = true ∧ PyData.depthAll xs ≤ n := by
      intro xs
      induction xs with
      | nil => intro _; exact ⟨by simp [PyData.eqvAll], rfl, Nat.zero_le _⟩
      | cons y ys ihy =>
        intro h
        obtain ⟨a1, a2, a3⟩ := ih (h y List.mem_cons_self)
        obtain ⟨b1, b2, b3⟩ := ihy fun z hz => h z (List.mem_cons_of_mem _ hz)
        refine ⟨by simp [PyData.eqvAll, a1, b1], by simp [PyData.plainAll, a2, b2], ?_⟩
        simp only [PyData.depthAll]
        omega
    cases h with
    | non => exact ⟨by simp [PyData.eqv], rfl, Nat.zero_le _⟩
    | bl b => exact ⟨by simp [PyData.eqv], rfl, Nat.zero_le _⟩
    | int i => exact ⟨by simp [PyData.eqv], rfl, Nat.zero_le _⟩
    | str x => exact ⟨by simp [PyData.eqv], rfl, Nat.zero_le _⟩
    | lst hl h =>
      obtain ⟨a1, a2, a3⟩ := all _ h
      exact ⟨by simp [PyData.eqv, a1], by simp [PyData.plain, a2], by simp only [PyData.depth]; omega⟩
    | tup hl h =>
      obtain ⟨a1, a2, a3⟩ := all _ h
      exact ⟨by simp [PyData.eqv, a1], by simp [PyData.plain, a2], by simp only [PyData.depth]; omega⟩
theorem same_okD {n : Nat} {x : D} (h : SameD n x) (hn : n ≤ 60) : okD x = true := by
  obtain ⟨_, a2, a3⟩ := sameD_facts h
  unfold okD
  rw [a2, Bool.true_and]
  exact decide_eq_true (by omega)
theorem eqvAll_iM' : ∀ a b : List Int, PyData.eqvAll (iM a) (iM b) = decide (a = b)
  | [], [] => by simp [iM, PyData.eqvAll]
  | [], _ :: _ => by simp [iM, PyData.eqvAll]
  | _ :: _, [] => by simp [iM, PyData.eqvAll]
  | x :: a, y :: b => by
    show PyData.eqvAll (PyData.int x :: iM a) (PyData.int y :: iM b) = _
    rw [PyData.eqvAll, eqvAll_iM' a b]
    simp only [PyData.eqv]
    by_cases h1 : x = y <;> by_cases h2 : a = b <;> simp [h1, h2]
theorem cut_to {xs : List D} (m : Nat) : cut xs none (some (m : Int)) = xs.take m := by
  have c : clip xs.length xs.length (some (m : Int)) = min m xs.length := by
    show (if (m : Int) < 0 then (if (m : Int) + (xs.length : Int) < 0 then 0 else ((m : Int) + (xs.length : Int)).toNat) else (if (xs.length : Int) < (m : Int) then xs.length else (m : Int).toNat)) = _
    rw [if_neg (by omega)]
    split <;> omega
  unfold cut
  rw [c]
  show List.take (min m xs.length - 0) (List.drop 0 xs) = _
  rw [List.drop_zero, Nat.sub_zero]
  by_cases h : m ≤ xs.length
  · rw [Nat.min_eq_left h]
  · rw [Nat.min_eq_right (by omega), List.take_of_length_le (Nat.le_refl _), List.take_of_length_le (by omega)]
theorem rng_ii {a b : Int} (ha : a.natAbs < 2 ^ 60) (hb : b.natAbs < 2 ^ 60) (h : b - a ≤ 16777216) : rngD [.int a, .int b] = some ((List.range (b - a).toNat).map fun (k : Nat) => PyData.int (a + k)) := by
  show (if _ then _ else _) = _
  rw [if_pos]
  simp only [Bool.and_eq_true, decide_eq_true_eq]
  omega
theorem range_get2 {n k : Nat} {a : Int} {z : D} (h : ((List.range n).map fun (k : Nat) => PyData.int (a + k))[k]? = some z) : k < n ∧ z = .int (a + k) := by
  have hk : k < n := by
    have := (List.getElem?_eq_some_iff.mp h).1
    simpa using this
  rw [List.getElem?_map, List.getElem?_range hk] at h
  cases h
  exact ⟨hk, rfl⟩
theorem okl1 {k : Nat} (h : k ≤ 1000) : okL k = true := decide_eq_true (by omega)
theorem eqv_lM (a b : List Int) : PyData.eqv (.list (iM a)) (.list (iM b)) = decide (a = b) := by
  rw [PyData.eqv, eqvAll_iM']
theorem ok_lM {a : List Int} (h : a.length ≤ 1000) : okD (.list (iM a)) = true := same_okD (n := 1) (.lst (by rw [iM_len]; omega) fun y hy => by
  obtain ⟨a, _, rfl⟩ := List.mem_map.mp hy
  exact .int a) (by decide)
theorem eq_lM {a b : List Int} (ha : a.length ≤ 1000) (hb : b.length ≤ 1000) : cmpD .Eq (.list (iM a)) (.list (iM b)) = some (decide (a = b)) := by
  show (if okD (.list (iM a)) && okD (.list (iM b)) then some (PyData.eqv (.list (iM a)) (.list (iM b))) else none) = _
  rw [ok_lM ha, ok_lM hb, eqv_lM]; rfl
theorem isper_ex (f : List Int) {m : Nat} (hm : 1 ≤ m) : ∃ T, IsPer f m T := by
  classical
  have : ∀ n : Nat, 1 ≤ n → n ∣ m → Per f m n → ∃ s : Nat, 1 ≤ s ∧ s ∣ m ∧ Per f m s ∧ ∀ j : Nat, 1 ≤ j → j < s → j ∣ m → ¬ Per f m j := fun n => by
    induction n using Nat.strongRecOn with
    | ind n ih =>
      intro h1 h2 h3
      by_cases q : ∃ j, 1 ≤ j ∧ j < n ∧ j ∣ m ∧ Per f m (j : Nat)
      · obtain ⟨j, a, b, c, d⟩ := q
        exact ih j b a c d
      · exact ⟨n, h1, h2, h3, fun j a b c d => q ⟨j, a, b, c, d⟩⟩
  obtain ⟨s, a, b, c, d⟩ := this m hm (Nat.dvd_refl m) (per_self f m)
  exact ⟨s, isper_of hm a b c d⟩
theorem row_cond {f : List Int} {m p : Nat} (hp : p ≤ m) : (rowR f m m).drop p = (rowR f m m).take (m - p) ↔ ∀ n : Nat, n + p < m → rem f m ((n + p : Nat) : Int) = rem f m n := by
  constructor
  · intro h n hn
    have e := congrArg (fun l : List Int => l[n]?) h
    simp only [List.getElem?_drop, List.getElem?_take] at e
    rw [if_pos (by omega), rowR_get (by omega), rowR_get (by omega)] at e
    injection e with e
    rw [← e, Nat.add_comm]
  · intro h
    refine List.ext_getElem? fun n => ?_
    rw [List.getElem?_drop, List.getElem?_take]
    by_cases hn : n + p < m
    · rw [if_pos (by omega), rowR_get (by omega), rowR_get (by omega), Nat.add_comm p n, h n hn]
    · rw [if_neg (by omega), List.getElem?_eq_none (by rw [rowR_len]; omega)]
section
variable {E : En} {w : W} {i i1 i2 i3 i4 i5 i6 i7 : Nat} {o o1 o2 o3 o4 o5 o6 o7 o8 o9 : Option IV} {f : List Int}
theorem left_by_ok {m : Nat} (m1 : 1 ≤ m) (m2 : m ≤ 1000) (ha : ∀ n : Nat, n < m → E.Φ i [.d (iT f), .d (.int (n : Int))] w = .ok (.d (.int (ivI f n))) w) :
    fin w.length (evS E (B_left_by i) [some (.d (iT f)), some (.d (.int (m : Int))), o] w) = .ok (.d (.list (iM (rowR f m m)))) w := by
  refine Ret.eq (X := fun _ _ _ => False) ?_ (fun _ _ _ h => h)
  obtain ⟨ns, hns⟩ : ∃ ns : List Int, ns = (List.range m).map fun (k : Nat) => (k : Int) := ⟨_, rfl⟩
  have c := map_int (f := ns) (h := fun n => rem f m n) (F := elF (isNil .nil) (.nm 2) (ev E .nil) (ev E (.bin .Mod (.call i (.cons (.var 0) (.cons (.var 2) .nil))) (.var 1))) (wip [some (.d (iT f)), some (.d (.int (m : Int))), o] [2])) (w := w) (fun z hz => by
    rw [hns] at hz
    obtain ⟨k, hk, rfl⟩ := List.mem_map.mp hz
    have hk := List.mem_range.mp hk
    have h1 := ha k hk
    refine Ret.eq (X := fun _ _ _ => False) ?_ (fun _ _ _ h => h)
    show Ret _ _ (elF true _ _ _ _ _ _)
    rw [Ret_elT]
    have m0 : ¬ (m : Int) = 0 := by omega
    have m0' : ¬ m = 0 := by omega
    simp [wip, h1, m0, m0', rem])
  have e1 : iM ns = (List.range m).map fun (k : Nat) => PyData.int k := by rw [hns, iM, List.map_map]; rfl
  have e2 : ns.map (fun n => rem f m n) = rowR f m m := by rw [hns, rowR, List.map_map]; rfl
  rw [e1, e2] at c
  unfold B_left_by
  rw [Ret_fin, RetS_cons, evS_ret, RetS_onE, Ret_comp, Ret_rng]
  simp only [evA_cons, evA_nil, Ret_bind, ev_var, Ret_ofO, slot_cons0, slot_cons, OptP_some, Ret_ok, purs_cons, purs_nil, Option.map_some, rng_nat (n := m) (by omega), compP_dat, List.length_map, List.length_range, okl1 m2, true_and, c, RetS_mk, sq_ret, finK_d, take_len, and_self]
def bPerC : Ex := (.and (.cmp .Eq (.bin .Mod (.var 1) (.var 2)) (.cst (.int (0)))) (.cmp .Eq (.sl (.var 0) (.cons (.var 2) .nil) .nil) (.sl (.var 0) .nil (.cons (.bin .Sub (.var 1) (.var 2)) .nil))))
def bPerI : Ex := (.rng (.cons (.cst (.int (1))) (.cons (.bin .Add (.var 1) (.cst (.int (1)))) .nil)))
def bPerG (it cnd : Ex) : St := (.cons (.asg (.nm 1) (.blt .len (.cons (.var 0) .nil))) (.cons (.for_ (.nm 2) it (.cons (.ifs cnd (.cons (.ret (.var 2)) .nil) .nil) .nil)) (.cons (.ret (.var 1)) .nil)))
theorem bPer_eq : B_period_of = bPerG bPerI bPerC := rfl
theorem period_of_gen {it cnd : Ex} {r : List Int} {m T : Nat} (ll : bltD .len [.list (iM r)] = some (.int (m : Int))) (m2 : m ≤ 1000) (T1 : 1 ≤ T) (Tm : T ≤ m)
    (hit : ∀ (x2 : Option IV) (w : W), evI E it [some (.d (.list (iM r))), some (.d (.int (m : Int))), x2] w = .ok (.dat ((List.range m).map fun (k : Nat) => PyData.int (1 + k))) w)
    (hc : ∀ (p : Nat) (w : W), 1 ≤ p → p ≤ T → ∃ b : Bool, ev E cnd [some (.d (.list (iM r))), some (.d (.int (m : Int))), some (.d (.int (p : Int)))] w = .ok (.d (.bool b)) w ∧ (b = true ↔ p = T)) :
    fin w.length (evS E (bPerG it cnd) [some (.d (.list (iM r))), o1, o2] w) = .ok (.d (.int (T : Int))) w := by
  refine Ret.eq (X := fun _ _ _ => False) ?_ (fun _ _ _ h => h)
  unfold bPerG
  rw [Ret_fin, RetS_cons]
  refine RetS.nx (M := fun σ w' => w' = w ∧ σ = [some (.d (.list (iM r))), some (.d (.int (m : Int))), o2]) (by simp [ll]) ?_
  rintro σ w1 ⟨rfl, rfl⟩
  rw [RetS_cons, RetS_for, hit, Ret_ok, forP_dat]
  refine ⟨by rw [List.length_map, List.length_range]; exact okl1 m2, ?_⟩
  refine forL_inv (fun k σ w2 => w2 = w1 ∧ k < T ∧ ∃ x2, σ = [some (.d (.list (iM r))), some (.d (.int (m : Int))), x2]) ⟨rfl, T1, _, rfl⟩ ?_ ?_
  · rintro k z σ w2 hz ⟨rfl, hk, x2, rfl⟩
    obtain ⟨hkm, rfl⟩ := range_get2 hz
    rw [RetS_body, asg_nm, OptP_some]
    obtain ⟨p, hp⟩ : ∃ p : Nat, p = k + 1 := ⟨_, rfl⟩
    have ep : (1 : Int) + (k : Int) = (p : Int) := by omega
    rw [ep]
    obtain ⟨b, c1, c2⟩ := hc p w2 (by omega) (by omega)
    cases b with
    | true =>
      have e := c2.mp rfl
      subst e
      simp [c1, take_len]
    | false =>
      have ne : ¬ p = T := fun e => by have := c2.mpr e; cases this
      simp [c1]
      omega
  · rintro σ w2 ⟨rfl, hk, x2, rfl⟩
    rw [List.length_map, List.length_range] at hk
    omega
theorem rng_hit {e1 e2 : Ex} {a b : Int} {xs : List D} {σ : Sl} (w : W) (h1 : ev E e1 σ w = .ok (.d (.int a)) w) (h2 : ev E e2 σ w = .ok (.d (.int b)) w) (rr : rngD [.int a, .int b] = some xs) : evI E (.rng (.cons e1 (.cons e2 .nil))) σ w = .ok (.dat xs) w := by
  refine Ret.eq (X := fun _ _ _ => False) ?_ (fun _ _ _ h => h)
  rw [Ret_rng]
  simp only [evA_cons, evA_nil, Ret_bind, h1, h2, Ret_ok, purs_cons, purs_nil, Option.map_some, OptP_some, rr, and_self]
theorem add_one {e : Ex} {z : Int} {σ : Sl} (w : W) (h : ev E e σ w = .ok (.d (.int z)) w) : ev E (.bin .Add e (.cst (.int 1))) σ w = .ok (.d (.int (z + 1))) w := by
  refine Ret.eq (X := fun _ _ _ => False) ?_ (fun _ _ _ h => h)
  simp only [Ret_bin, h, Ret_ok, ev_cst, rd_d, add_ii, OptP_some, and_self]
theorem per_hit {X1 X2 : Option IV} {m : Nat} (m2 : m ≤ 1000) (w : W) : evI E bPerI [X1, some (.d (.int (m : Int))), X2] w = .ok (.dat ((List.range m).map fun (k : Nat) => PyData.int (1 + k))) w := by
  have rr := rng_ii (a := 1) (b := (m : Int) + 1) (by omega) (by omega) (by omega)
  rw [show ((m : Int) + 1 - 1).toNat = m by omega] at rr
  exact rng_hit w (ev_cst ..) (add_one w (by rw [ev_var]; rfl)) rr
theorem per_cnd {r1 r2 R : List Int} {m p : Nat} {b : Bool} (p1 : 1 ≤ p) (pm : p ≤ m) (m2 : m ≤ 1000) (s1 : slD (.list (iM R)) (some (p : Int)) none = some (.list (iM r1))) (s2 : slD (.list (iM R)) none (some ((m : Int) - (p : Int))) = some (.list (iM r2))) (eq : cmpD .Eq (.list (iM r1)) (.list (iM r2)) = some b) (w : W) :
    ev E bPerC [some (.d (.list (iM R))), some (.d (.int (m : Int))), some (.d (.int (p : Int)))] w = .ok (.d (.bool (decide ((m : Int).fmod (p : Int) = 0) && b))) w := by
  have p0 : ¬ (p : Int) = 0 := by omega
  have p0' : ¬ p = 0 := by omega
  have op : okI (p : Int) = true := okI_small (by omega)
  have om : okI (m : Int) = true := okI_small (by omega)
  refine Ret.eq (X := fun _ _ _ => False) ?_ (fun _ _ _ h => h)
  unfold bPerC
  by_cases h : (m : Int).fmod (p : Int) = 0
  · simp [p0, p0', h, s1, s2, eq, op, om]
  · simp [p0, p0', h]
theorem period_of_ok {m T : Nat} (m1 : 1 ≤ m) (m2 : m ≤ 1000) (hT : IsPer f m T) :
    fin w.length (evS E B_period_of [some (.d (.list (iM (rowR f m m)))), o1, o2] w) = .ok (.d (.int (T : Int))) w := by
  have Tm : T ≤ m := Nat.le_of_dvd (by omega) hT.dv
  have rl := rowR_len f m m
  have ll : bltD .len [.list (iM (rowR f m m))] = some (.int (m : Int)) := by
    show some (PyData.int ((iM (rowR f m m)).length : Int)) = _
    rw [iM_len, rl]
  have k := period_of_gen (E := E) (w := w) (o1 := o1) (o2 := o2) (it := bPerI) (cnd := bPerC) ll m2 hT.t1 Tm (fun x2 w => per_hit m2 w) (fun p w p1 pT => by
    have s1 : slD (.list (iM (rowR f m m))) (some (p : Int)) none = some (.list (iM ((rowR f m m).drop p))) := by
      show some (PyData.list (cut _ _ _)) = _
      rw [cut_from]; unfold iM; rw [List.map_drop]
    have s2 : slD (.list (iM (rowR f m m))) none (some ((m : Int) - (p : Int))) = some (.list (iM ((rowR f m m).take (m - p)))) := by
      rw [show (m : Int) - (p : Int) = ((m - p : Nat) : Int) by omega]
      show some (PyData.list (cut _ _ _)) = _
      rw [cut_to]; unfold iM; rw [List.map_take]
    have eq := eq_lM (a := (rowR f m m).drop p) (b := (rowR f m m).take (m - p)) (by rw [List.length_drop, rl]; omega) (by rw [List.length_take, rl]; omega)
    have fm : ((m : Int).fmod (p : Int) = 0) ↔ p ∣ m := by
      rw [Int.fmod_eq_emod_of_nonneg _ (by omega)]
      exact Int.dvd_iff_emod_eq_zero.symm.trans Int.ofNat_dvd
    refine ⟨_, per_cnd p1 (by omega) m2 s1 s2 eq w, ?_⟩
    rw [Bool.and_eq_true, decide_eq_true_eq, decide_eq_true_eq, fm]
    constructor
    · rintro ⟨dv, cnd⟩
      have per := ((row_cond (f := f) (m := m) (p := p) (by omega)).trans (per_row m1 p1 dv).symm).mp cnd
      have := Nat.le_of_dvd (by omega) (Int.ofNat_dvd.mp (hT.le p per))
      omega
    · intro e
      subst e
      exact ⟨hT.dv, ((row_cond (f := f) (m := m) (p := p) (by omega)).trans (per_row m1 p1 hT.dv).symm).mpr hT.per⟩)
  rw [bPer_eq]
  exact k
theorem period_ok {m T : Nat} (h1 : E.Φ i1 [.d (iT f)] w = .ok (.d .none) w) (h2 : E.Φ i2 [.d (.int (m : Int)), .d (.int 1)] w = .ok (.d .none) w) (h3 : E.Φ i4 [.d (iT f), .d (.int (m : Int))] w = .ok (.d (.list (iM (rowR f m m)))) w) (h4 : E.Φ i3 [.d (.list (iM (rowR f m m)))] w = .ok (.d (.int (T : Int))) w) :
    fin w.length (evS E (B_period i1 i2 i3 i4) [some (.d (iT f)), some (.d (.int (m : Int)))] w) = .ok (.d (.int (T : Int))) w := by
  refine Ret.eq (X := fun _ _ _ => False) ?_ (fun _ _ _ h => h)
  unfold B_period
  simp [h1, h2, h3, h4, take_len]
theorem remainders_new {m T : Nat} {X : Nat → D → W → Prop} (Tm : T ≤ m) (h1 : E.Φ i1 [.d (iT f)] w = .ok (.d .none) w) (h2 : E.Φ i2 [.d (.int (m : Int)), .d (.int 1)] w = .ok (.d .none) w) (h3 : E.Φ i3 [.d (iT f), .d (.int (m : Int))] w = .ok (.d (.list (iM (rowR f m m)))) w) (h4 : E.Φ i4 [.d (.list (iM (rowR f m m)))] w = .ok (.d (.int (T : Int))) w) :
    fin w.length (evS E (B_remainders i1 i2 i3 i4) [some (.d (iT f)), some (.d (.int (m : Int))), o] w) = .ok (.ref w.length) (w ++ [.lst (iM (rowR f m T))]) := by
  refine Ret.eq (X := fun _ _ _ => False) ?_ (fun _ _ _ h => h)
  have s2 : slD (.list (iM (rowR f m m))) none (some (T : Int)) = some (.list (iM (rowR f m T))) := by
    show some (PyData.list (cut _ _ _)) = _
    rw [cut_to, iM, ← List.map_take]
    unfold rowR iM
    rw [← List.map_take, List.take_range, Nat.min_eq_left Tm]
  unfold B_remainders
  simp [h1, h2, h3, h4, s2, newW, finK_ref]
theorem turn_cond {r : List Int} {m p : Nat} (hr : r.length = m) (hp : p ≤ m) (p1 : 1 ≤ p) (dv : p ∣ m) : r = r.drop p ++ r.take p → r.drop p = r.take (m - p) := fun h => by
  have e := congrArg (fun l : List Int => l.take (m - p)) h
  rw [List.take_append_of_le_length (by rw [List.length_drop]; omega)] at e
  rw [e, List.take_of_length_le (by rw [List.length_drop]; omega)]
theorem borW_ok {Φ : Nat → List IV → W → R IV} {vs : List IV} {ds : List D} {r : D} {w w2 : W} (h1 : rd2s w vs = some ds) (h2 : Φ i (ds.map .d) [] = .ok (.d r) w2) (h3 : scal r = true) : borW Φ i vs w = .ok (.d r) w := by
  simp only [borW, h1, h2, h3, if_true]
end
end Pv
namespace Pv.k50
open PySem PySem.Spec PyProof.Rows L2
theorem k0 : f0.chk c0 = true := by decide +kernel
theorem k1 : f1.chk c0 = true := by decide +kernel
theorem k2 : f2.chk c0 = true := by decide +kernel
theorem k3 : f3.chk c0 = true := by decide +kernel
theorem k4 : f4.chk c0 = true := by decide +kernel
theorem k5 : f5.chk c0 = true := by decide +kernel
theorem k6 : f6.chk c0 = true := by decide +kernel
theorem k7 : f7.chk c0 = true := by decide +kernel
theorem k8 : f8.chk c0 = true := by decide +kernel
theorem k9 : f9.chk c0 = true := by decide +kernel
theorem k10 : f10.chk c0 = true := by decide +kernel
theorem k11 : f11.chk c0 = true := by decide +kernel
theorem k12 : f12.chk c0 = true := by decide +kernel
theorem k13 : f13.chk c0 = true := by decide +kernel
theorem k14 : f14.chk c0 = true := by decide +kernel
theorem k15 : f15.chk c0 = true := by decide +kernel
theorem k16 : f16.chk c0 = true := by decide +kernel
theorem k17 : f17.chk c0 = true := by decide +kernel
theorem k18 : f18.chk c0 = true := by decide +kernel
theorem k19 : f19.chk c0 = true := by decide +kernel
theorem k20 : f20.chk c0 = true := by decide +kernel
theorem k21 : f21.chk c0 = true := by decide +kernel
theorem cks : ∀ (i : Nat) (f : Fs), fs[i]? = some f → f.chk c0 = true
  | 0, _, h => by cases h; exact k0
  | 1, _, h => by cases h; exact k1
  | 2, _, h => by cases h; exact k2
  | 3, _, h => by cases h; exact k3
  | 4, _, h => by cases h; exact k4
  | 5, _, h => by cases h; exact k5
  | 6, _, h => by cases h; exact k6
  | 7, _, h => by cases h; exact k7
  | 8, _, h => by cases h; exact k8
  | 9, _, h => by cases h; exact k9
  | 10, _, h => by cases h; exact k10
  | 11, _, h => by cases h; exact k11
  | 12, _, h => by cases h; exact k12
  | 13, _, h => by cases h; exact k13
  | 14, _, h => by cases h; exact k14
  | 15, _, h => by cases h; exact k15
  | 16, _, h => by cases h; exact k16
  | 17, _, h => by cases h; exact k17
  | 18, _, h => by cases h; exact k18
  | 19, _, h => by cases h; exact k19
  | 20, _, h => by cases h; exact k20
  | 21, _, h => by cases h; exact k21
  | _ + 22, _, h => by cases h
theorem bns : ∀ (i : Nat) (f : Fs), fs[i]? = some f → ∀ (kV doc pm : Value) (an : Option Addr) (cdv ct : Value) (us : List Value), us.length = f.ps.length → bindArgs (PySem.W.fnOf f.name f.name f.params f.body f.scope .none kV doc pm an cdv ct) ⟨us, []⟩ = pure (f.ps.zip us)
  | 0, _, h, _, _, _, _, _, _, us, hl => by cases h; exact (match us, hl with | [_], _ => rfl)
  | 1, _, h, _, _, _, _, _, _, us, hl => by cases h; exact (match us, hl with | [_, _], _ => rfl)
  | 2, _, h, _, _, _, _, _, _, us, hl => by cases h; exact (match us, hl with | [_], _ => rfl)
  | 3, _, h, _, _, _, _, _, _, us, hl => by cases h; exact (match us, hl with | [_], _ => rfl)
  | 4, _, h, _, _, _, _, _, _, us, hl => by cases h; exact (match us, hl with | [_, _], _ => rfl)
  | 5, _, h, _, _, _, _, _, _, us, hl => by cases h; exact (match us, hl with | [_, _], _ => rfl)
  | 6, _, h, _, _, _, _, _, _, us, hl => by cases h; exact (match us, hl with | [_], _ => rfl)
  | 7, _, h, _, _, _, _, _, _, us, hl => by cases h; exact (match us, hl with | [_, _], _ => rfl)
  | 8, _, h, _, _, _, _, _, _, us, hl => by cases h; exact (match us, hl with | [_, _], _ => rfl)
  | 9, _, h, _, _, _, _, _, _, us, hl => by cases h; exact (match us, hl with | [_, _, _], _ => rfl)
  | 10, _, h, _, _, _, _, _, _, us, hl => by cases h; exact (match us, hl with | [_, _], _ => rfl)
  | 11, _, h, _, _, _, _, _, _, us, hl => by cases h; exact (match us, hl with | [_, _], _ => rfl)
  | 12, _, h, _, _, _, _, _, _, us, hl => by cases h; exact (match us, hl with | [_], _ => rfl)
  | 13, _, h, _, _, _, _, _, _, us, hl => by cases h; exact (match us, hl with | [_, _], _ => rfl)
  | 14, _, h, _, _, _, _, _, _, us, hl => by cases h; exact (match us, hl with | [_, _], _ => rfl)
  | 15, _, h, _, _, _, _, _, _, us, hl => by cases h; exact (match us, hl with | [_, _], _ => rfl)
  | 16, _, h, _, _, _, _, _, _, us, hl => by cases h; exact (match us, hl with | [_], _ => rfl)
  | 17, _, h, _, _, _, _, _, _, us, hl => by cases h; exact (match us, hl with | [_, _], _ => rfl)
  | 18, _, h, _, _, _, _, _, _, us, hl => by cases h; exact (match us, hl with | [_, _], _ => rfl)
  | 19, _, h, _, _, _, _, _, _, us, hl => by cases h; exact (match us, hl with | [_, _], _ => rfl)
  | 20, _, h, _, _, _, _, _, _, us, hl => by cases h; exact (match us, hl with | [_], _ => rfl)
  | 21, _, h, _, _, _, _, _, _, us, hl => by cases h; exact (match us, hl with | [_], _ => rfl)
  | _ + 22, _, h, _, _, _, _, _, _, _, _ => by cases h
theorem kws : ∀ i n kn perm, (i, n, kn, perm) ∈ c0.kw → ∀ f, fs[i]? = some f → ∀ (kV doc pm : Value) (an : Option Addr) (cdv ct : Value) (us ws us' : List Value), us.length = n → ws.length = kn.length → pickG (us ++ ws) perm = some us' →
    us'.length = f.ps.length ∧ bindArgs (PySem.W.fnOf f.name f.name f.params f.body f.scope .none kV doc pm an cdv ct) ⟨us, kn.zip ws⟩ = pure (f.ps.zip us') := by
  intro i n kn perm h f hf kV doc pm an cdv ct us ws us' h1 h2 h3
  simp only [c0, List.mem_cons, List.not_mem_nil, or_false, Prod.mk.injEq] at h
  rcases h with ⟨rfl, rfl, rfl, rfl⟩ | ⟨rfl, rfl, rfl, rfl⟩
  · cases hf
    exact (match us, ws, h1, h2, h3 with | [], [_, _], _, _, h3 => by cases h3; exact ⟨rfl, rfl⟩)
  · cases hf
    exact (match us, ws, h1, h2, h3 with | [], [_, _], _, _, h3 => by cases h3; exact ⟨rfl, rfl⟩)
theorem fine : L.Fine li where
  cf := rfl
  ck := cks
  gl := rfl
  gcd := fun h => absurd h (by decide)
  lcm := fun h => absurd h (by decide)
  isq := fun h => absurd h (by decide)
  law := ⟨f21, rfl, rfl, rfl⟩
  bn := bns
  kw := kws
@[irreducible] def cal : Nat → Nat → List IV → W → R IV := callF (prog L.fs) qq L.G
theorem cal_eq : cal = callF (prog L.fs) qq L.G := by unfold cal; rfl
abbrev En0 (d : Nat) : En := ⟨cal d, qq, L.G⟩
@[simp] theorem En0_Φ {d : Nat} : (En0 d).Φ = cal d := rfl
theorem e0 {d : Nat} {a0 : IV} {w : W} : cal (d + 1) 0 [a0] w = fin w.length (evS (En0 d) b0 [some a0] w) := by unfold En0; rw [cal_eq]; exact (callF_get (f := f0) rfl).trans rfl
theorem e1 {d : Nat} {a0 a1 : IV} {w : W} : cal (d + 1) 1 [a0, a1] w = fin w.length (evS (En0 d) b1 [some a0, some a1] w) := by unfold En0; rw [cal_eq]; exact (callF_get (f := f1) rfl).trans rfl
theorem e2 {d : Nat} {a0 : IV} {w : W} : cal (d + 1) 2 [a0] w = fin w.length (evS (En0 d) b2 [some a0, none] w) := by unfold En0; rw [cal_eq]; exact (callF_get (f := f2) rfl).trans rfl
theorem e3 {d : Nat} {a0 : IV} {w : W} : cal (d + 1) 3 [a0] w = fin w.length (evS (En0 d) b3 [some a0] w) := by unfold En0; rw [cal_eq]; exact (callF_get (f := f3) rfl).trans rfl
theorem e4 {d : Nat} {a0 a1 : IV} {w : W} : cal (d + 1) 4 [a0, a1] w = fin w.length (evS (En0 d) b4 [some a0, some a1, none, none] w) := by unfold En0; rw [cal_eq]; exact (callF_get (f := f4) rfl).trans rfl
theorem e5 {d : Nat} {a0 a1 : IV} {w : W} : cal (d + 1) 5 [a0, a1] w = fin w.length (evS (En0 d) b5 [some a0, some a1, none] w) := by unfold En0; rw [cal_eq]; exact (callF_get (f := f5) rfl).trans rfl
theorem e6 {d : Nat} {a0 : IV} {w : W} : cal (d + 1) 6 [a0] w = fin w.length (evS (En0 d) b6 [some a0, none, none] w) := by unfold En0; rw [cal_eq]; exact (callF_get (f := f6) rfl).trans rfl
theorem e7 {d : Nat} {a0 a1 : IV} {w : W} : cal (d + 1) 7 [a0, a1] w = fin w.length (evS (En0 d) b7 [some a0, some a1] w) := by unfold En0; rw [cal_eq]; exact (callF_get (f := f7) rfl).trans rfl
theorem e8 {d : Nat} {a0 a1 : IV} {w : W} : cal (d + 1) 8 [a0, a1] w = fin w.length (evS (En0 d) b8 [some a0, some a1, none] w) := by unfold En0; rw [cal_eq]; exact (callF_get (f := f8) rfl).trans rfl
theorem e9 {d : Nat} {a0 a1 a2 : IV} {w : W} : cal (d + 1) 9 [a0, a1, a2] w = fin w.length (evS (En0 d) b9 [some a0, some a1, some a2, none, none, none] w) := by unfold En0; rw [cal_eq]; exact (callF_get (f := f9) rfl).trans rfl
theorem e10 {d : Nat} {a0 a1 : IV} {w : W} : cal (d + 1) 10 [a0, a1] w = fin w.length (evS (En0 d) b10 [some a0, some a1, none, none] w) := by unfold En0; rw [cal_eq]; exact (callF_get (f := f10) rfl).trans rfl
theorem e11 {d : Nat} {a0 a1 : IV} {w : W} : cal (d + 1) 11 [a0, a1] w = fin w.length (evS (En0 d) b11 [some a0, some a1, none, none] w) := by unfold En0; rw [cal_eq]; exact (callF_get (f := f11) rfl).trans rfl
theorem e12 {d : Nat} {a0 : IV} {w : W} : cal (d + 1) 12 [a0] w = fin w.length (evS (En0 d) b12 [some a0, none, none, none] w) := by unfold En0; rw [cal_eq]; exact (callF_get (f := f12) rfl).trans rfl
theorem e13 {d : Nat} {a0 a1 : IV} {w : W} : cal (d + 1) 13 [a0, a1] w = fin w.length (evS (En0 d) b13 [some a0, some a1, none, none, none, none, none] w) := by unfold En0; rw [cal_eq]; exact (callF_get (f := f13) rfl).trans rfl
theorem e14 {d : Nat} {a0 a1 : IV} {w : W} : cal (d + 1) 14 [a0, a1] w = fin w.length (evS (En0 d) b14 [some a0, some a1, none, none, none, none, none] w) := by unfold En0; rw [cal_eq]; exact (callF_get (f := f14) rfl).trans rfl
theorem e15 {d : Nat} {a0 a1 : IV} {w : W} : cal (d + 1) 15 [a0, a1] w = fin w.length (evS (En0 d) b15 [some a0, some a1, none] w) := by unfold En0; rw [cal_eq]; exact (callF_get (f := f15) rfl).trans rfl
theorem e16 {d : Nat} {a0 : IV} {w : W} : cal (d + 1) 16 [a0] w = fin w.length (evS (En0 d) b16 [some a0] w) := by unfold En0; rw [cal_eq]; exact (callF_get (f := f16) rfl).trans rfl
theorem e17 {d : Nat} {a0 a1 : IV} {w : W} : cal (d + 1) 17 [a0, a1] w = fin w.length (evS (En0 d) b17 [some a0, some a1, none, none, none, none, none, none, none] w) := by unfold En0; rw [cal_eq]; exact (callF_get (f := f17) rfl).trans rfl
theorem e18 {d : Nat} {a0 a1 : IV} {w : W} : cal (d + 1) 18 [a0, a1] w = fin w.length (evS (En0 d) b18 [some a0, some a1, none, none] w) := by unfold En0; rw [cal_eq]; exact (callF_get (f := f18) rfl).trans rfl
theorem e19 {d : Nat} {a0 a1 : IV} {w : W} : cal (d + 1) 19 [a0, a1] w = fin w.length (evS (En0 d) b19 [some a0, some a1, none, none, none] w) := by unfold En0; rw [cal_eq]; exact (callF_get (f := f19) rfl).trans rfl
theorem e20 {d : Nat} {a0 : IV} {w : W} : cal (d + 1) 20 [a0] w = fin w.length (evS (En0 d) b20 [some a0, none] w) := by unfold En0; rw [cal_eq]; exact (callF_get (f := f20) rfl).trans rfl
theorem e21 {d : Nat} {a0 : IV} {w : W} : cal (d + 1) 21 [a0] w = fin w.length (evS (En0 d) b21 [some a0, none, none, none, none, none, none, none, none, none, none] w) := by unfold En0; rw [cal_eq]; exact (callF_get (f := f21) rfl).trans rfl
end Pv.k50
namespace Pv.k50
open PySem
variable {D : Nat} {w : W} {X : Nat → PyData → W → Prop} {f g : List Int}
theorem up {k D : Nat} (h : k ≤ D) : ∃ d, D = d + k := ⟨D - k, by omega⟩
theorem small_of {xs : List PyData} (h : xs.length ≤ 1000) : small (.tuple xs) := fun ys e => by cases e; exact Nat.le_trans h (by decide)
theorem log_le {n m k : Nat} (h : n < 2 ^ m) (hm : 0 < m) (hk : m ≤ k) : n.log2 < k := Nat.lt_of_lt_of_le (log_pow h hm) hk
theorem s0 (hD : 1 ≤ D) (x : PyData) (w : W) : cal D 0 [.d x] w = .ok (.d (.bool (isI x))) w := by
  obtain ⟨d, rfl⟩ := up hD
  rw [e0]; exact int_ok x
theorem s1 (hD : 2 ≤ D) {a : Int} {x : PyData} (hx : x = .none ∨ ∃ l : Int, x = .int l ∧ l ≤ a) (w : W) : cal D 1 [.d (.int a), .d x] w = .ok (.d .none) w := by
  obtain ⟨d, rfl⟩ := up hD
  rw [e1]; exact check_integer_ok hx (s0 (by omega) _ w)
theorem s2 (hD : 2 ≤ D) (hl : f.length ≤ 1000) (hd : HdI f) (w : W) : cal D 2 [.d (iT f)] w = .ok (.d (.bool true)) w := by
  obtain ⟨d, rfl⟩ := up hD
  rw [e2, ← isPoly_iT hd]; exact poly_ok (small_of (by rw [iM_len]; exact hl)) fun y w => s0 (by omega) y w
theorem s2g (hD : 2 ≤ D) {x : PyData} (hx : small x) (w : W) : cal D 2 [.d x] w = .ok (.d (.bool (isPoly x))) w := by
  obtain ⟨d, rfl⟩ := up hD
  rw [e2]; exact poly_ok hx fun y w => s0 (by omega) y w
theorem s3 (hD : 3 ≤ D) (hl : f.length ≤ 1000) (hd : HdI f) (w : W) : cal D 3 [.d (iT f)] w = .ok (.d .none) w := by
  obtain ⟨d, rfl⟩ := up hD
  rw [e3]; exact check_one_ok (s2 (by omega) hl hd w)
theorem s4 (hD : 1 ≤ D) {B C : Nat} {n : Int} (hf : Sm B f) (hn : n.natAbs < 2 ^ C) (hC1 : 1 ≤ C) (lf : f.length ≤ 400) (hB : B ≤ 8000) (hC : C ≤ 2000) (w : W) : cal D 4 [.d (iT f), .d (.int n)] w = .ok (.d (.int (ivI f n))) w := by
  obtain ⟨d, rfl⟩ := up hD
  rw [e4]; exact at_integer_ok hf hn hC1 lf hB (by omega) (by omega)
theorem s5 (hD : 2 ≤ D) (hf : Sm 5 f) (lf : f.length ≤ 7) {m : Nat} (m1 : 1 ≤ m) (m2 : m ≤ 1000) (w : W) : cal D 5 [.d (iT f), .d (.int (m : Int))] w = .ok (.d (.list (iM (rowR f m m)))) w := by
  obtain ⟨d, rfl⟩ := up hD
  rw [e5]
  exact left_by_ok m1 m2 fun n hn => s4 (by omega) (C := 20) hf (by omega) (by decide) (by omega) (by decide) (by decide) w
theorem s6 (hD : 1 ≤ D) {m T : Nat} (m1 : 1 ≤ m) (m2 : m ≤ 1000) (hT : IsPer f m T) (w : W) : cal D 6 [.d (.list (iM (rowR f m m)))] w = .ok (.d (.int (T : Int))) w := by
  obtain ⟨d, rfl⟩ := up hD
  rw [e6]; exact period_of_ok m1 m2 hT
theorem s7 (hD : 4 ≤ D) (hd : HdI f) (hf : Sm 5 f) (lf : f.length ≤ 7) {m T : Nat} (m1 : 1 ≤ m) (m2 : m ≤ 1000) (hT : IsPer f m T) (w : W) : cal D 7 [.d (iT f), .d (.int (m : Int))] w = .ok (.d (.int (T : Int))) w := by
  obtain ⟨d, rfl⟩ := up hD
  rw [e7]
  exact period_ok (s3 (by omega) (by omega) hd w) (s1 (by omega) (.inr ⟨1, rfl, by omega⟩) w) (s5 (by omega) hf lf m1 m2 w) (s6 (by omega) m1 m2 hT w)
theorem s8 (hD : 4 ≤ D) (hd : HdI f) (hf : Sm 5 f) (lf : f.length ≤ 7) {m T : Nat} (m1 : 1 ≤ m) (m2 : m ≤ 1000) (hT : IsPer f m T) (w : W) : cal D 8 [.d (iT f), .d (.int (m : Int))] w = .ok (.ref w.length) (w ++ [.lst (iM (rowR f m T))]) := by
  obtain ⟨d, rfl⟩ := up hD
  rw [e8]
  exact remainders_new (X := fun _ _ _ => False) (Nat.le_of_dvd (by omega) hT.dv) (s3 (by omega) (by omega) hd w) (s1 (by omega) (.inr ⟨1, rfl, by omega⟩) w) (s5 (by omega) hf lf m1 m2 w) (s6 (by omega) m1 m2 hT w)
theorem s9 (hD : 1 ≤ D) {ns : List Int} {deep rounds : Int} (hl : ns.length ≤ 63) (d0 : 0 ≤ deep) (d1 : deep ≤ 100) (hr : rounds ≠ 0) (w : W) :
    Ret (fun v w' => v = .ref (w.length + 1) ∧ PotG w' (w.length + 1) w.length 0 ∧ w'.length = w.length + 2 ∧ ∀ i, i < w.length → w'[i]? = w[i]?) X (cal D 9 [.d (.list (iM ns)), .d (.int deep), .d (.int rounds)] w) := by
  obtain ⟨d, rfl⟩ := up hD
  rw [e9]; exact law_pot_ok hl (by omega) hr d0 d1
theorem take10 (hD : 1 ≤ D) : TakeG (En0 D) 10 := fun hp hB hm h2 => by
  obtain ⟨d, rfl⟩ := up hD
  show Ret _ _ (cal _ _ _ _)
  rw [e10]; exact takeG_ok hp hB hm h2
theorem s11 : ∀ {n D : Nat} (hD : n + 1 ≤ D) {x : PyData} (hx : SameD n x) (w : W), cal D 11 [.d x, .d x] w = .ok (.d (.bool true)) w := by
  intro n
  induction n with
  | zero =>
    intro D hD x hx w
    obtain ⟨d, rfl⟩ := up hD
    rw [e11]; exact same_ok' hx fun m y e => by omega
  | succ n ih =>
    intro D hD x hx w
    obtain ⟨d, rfl⟩ := up hD
    rw [show d + (n + 1 + 1) = (d + (n + 1)) + 1 by omega, e11]
    exact same_ok' hx fun m y e hy w => ih (by omega) (by obtain rfl : m = n := (by omega); exact hy) w
theorem s12 (hD : 1 ≤ D) (hl : f.length ≤ 1000) (w : W) : cal D 12 [.d (.list (iM f))] w = .ok (.d (iT (stripI f))) w := by
  obtain ⟨d, rfl⟩ := up hD
  rw [e12]; exact law_stripped_ok hl
theorem s13 (hD : 2 ≤ D) (hf : f.length ≤ 500) (hg : g.length ≤ 500) (w : W) : cal D 13 [.d (iT f), .d (iT g)] w = .ok (.d (iT (addI f g))) w := by
  obtain ⟨d, rfl⟩ := up hD
  rw [e13]; exact law_add_ok hf hg fun h w hl => s12 (by omega) hl w
theorem s14 (hD : 1 ≤ D) {B C : Nat} (hf : Sm B f) (hg : Sm C g) (hB : B ≤ 8000) (hC : C ≤ 8000) (lf : f.length ≤ 400) (lg : g.length ≤ 400) (w : W) : cal D 14 [.d (iT f), .d (iT g)] w = .ok (.d (iT (mulI f g))) w := by
  obtain ⟨d, rfl⟩ := up hD
  rw [e14]; exact law_mul_ok hf hg hB hC lf lg
theorem s15 (hD : 1 ≤ D) {most : Int} (hl : f.length ≤ 1000) (w : W) : cal D 15 [.d (iT f), .d (.int most)] w = .ok (.d (.bool (decide ((f.length : Int) ≤ most + 1) && f.all fun a => decide (a.natAbs ≤ 20)))) w := by
  obtain ⟨d, rfl⟩ := up hD
  rw [e15]; exact law_fits_ok hl
theorem s16 (hD : 2 ≤ D) {n j B : Nat} (hp : PotG w n j B) (hB : B + 10 < 2 ^ 40) :
    Ret (fun v w' => ∃ p : List Int, v = .d (iT p) ∧ HdI p ∧ p ≠ [] ∧ p.length ≤ 3 ∧ (∀ a ∈ p, a.natAbs ≤ 3) ∧ PotG w' n j (B + 4) ∧ Upd n j w w') X (cal D 16 [.ref n] w) := by
  obtain ⟨d, rfl⟩ := up hD
  rw [e16]; exact law_factor_ok' hp hB (take10 (by omega))
theorem s17 (hD : 3 ≤ D) {n j B most : Nat} (hm : most ≤ 10) (hp : PotG w n j B) (hB : B + 50 < 2 ^ 40) :
    Ret (fun v w' => ∃ f : List Int, v = .d (iT f) ∧ Dr (most + 1) f ∧ PotG w' n j (B + 40) ∧ Upd n j w w') X (cal D 17 [.ref n, .d (.int (most : Int))] w) := by
  obtain ⟨d, rfl⟩ := up hD
  rw [e17]; exact law_drawn_ok' hm hp hB (take10 (by omega)) (fun h w hl => s12 (by omega) hl w) (fun hp hB => s16 (by omega) hp hB) (fun w h1 h2 h3 h4 h5 h6 => s14 (by omega) h1 h2 h3 h4 h5 h6 w) (fun w hl => s15 (by omega) hl w) (fun w h1 h2 => s13 (by omega) h1 h2 w)
theorem s18 (hD : 1 ≤ D) {B C : Nat} {n : Int} (hf : Sm B f) (hn : n.natAbs < 2 ^ C) (hC1 : 1 ≤ C) (lf : f.length ≤ 400) (hB : B ≤ 8000) (hC : C ≤ 2000) (w : W) : cal D 18 [.d (iT f), .d (.int n)] w = .ok (.d (.int (ivI f n))) w := by
  obtain ⟨d, rfl⟩ := up hD
  rw [e18]; exact at_integer_ok hf hn hC1 lf hB (by omega) (by omega)
theorem sameI {h : List Int} (hl : h.length ≤ 1000000) : SameD 1 (iT h) := .tup (by rw [iM_len]; exact hl) fun y hy => by
  obtain ⟨a, _, rfl⟩ := List.mem_map.mp hy
  exact .int a
end Pv.k50
namespace Pv.k50
open PySem
variable {D : Nat} {w : W} {X : Nat → PyData → W → Prop} {f g : List Int} {n j B : Nat}
theorem okl {k : Nat} (h : k ≤ 1000) : okL k = true := decide_eq_true (by omega)
theorem Ret.ex' {α : Type} {Q : α → W → Prop} {r : R α} (h : Ret Q (fun _ _ _ => False) r) : ∃ v w', r = .ok v w' ∧ Q v w' := by
  cases r with
  | ok a w => exact ⟨a, w, rfl, h⟩
  | exc c x w => exact h.elim
  | no => exact h.elim
theorem whole_cond {m p : Nat} (hm : 1 ≤ m) (p1 : 1 ≤ p) (pm : p ≤ m) (dv : p ∣ m) : rowR f m m = (rowR f m m).drop p ++ (rowR f m m).take p ↔ Per f m p := by
  constructor
  · intro h
    exact ((row_cond pm).trans (per_row hm p1 dv).symm).mp (turn_cond (rowR_len f m m) pm p1 dv h)
  · intro h
    refine List.ext_getElem? fun n => ?_
    by_cases hn : n < m
    · rw [rowR_get hn]
      by_cases h2 : n < m - p
      · rw [List.getElem?_append_left (by rw [List.length_drop, rowR_len]; omega), List.getElem?_drop, rowR_get (by omega)]
        have := (per_row hm p1 dv).mp h n (by omega)
        rw [Nat.add_comm p n, this]
      · rw [List.getElem?_append_right (by rw [List.length_drop, rowR_len]; omega), List.length_drop, rowR_len, List.getElem?_take, if_pos (by omega), rowR_get (by omega)]
        congr 1
        have e1 : rem f m (n : Int) = rem f m ((n : Int) + p) := by
          rw [rem_eq hm]
          have := Int.dvd_neg.mpr (h n)
          rwa [show -(ivI f ((n : Int) + p) - ivI f n) = ivI f n - ivI f ((n : Int) + p) by omega] at this
        rw [e1, rem_eq hm]
        have := per_self f m (((n - (m - p) : Nat) : Int))
        rwa [show ((n - (m - p) : Nat) : Int) + (m : Int) = (n : Int) + p by omega] at this
    · rw [List.getElem?_eq_none (by rw [rowR_len]; omega), List.getElem?_eq_none (by rw [List.length_append, List.length_drop, List.length_take, rowR_len]; omega)]
def bLC : Ex := (.and (.cmp .Eq (.bin .Mod (.blt .int (.cons (.var 1) .nil)) (.var 3)) (.cst (.int (0)))) (.cmp .Eq (.var 2) (.bin .Add (.sl (.var 2) (.cons (.var 3) .nil) .nil) (.sl (.var 2) .nil (.cons (.var 3) .nil)))))
def bLG (s : St) (it cnd : Ex) : St := (.cons s (.cons (.for_ (.nm 3) it (.cons (.ifs cnd (.cons (.ret (.tup (.cons (.var 3) (.cons (.var 2) .nil)))) .nil) .nil) .nil)) (.cons (.ret (.tup (.cons (.var 1) (.cons (.var 2) .nil)))) .nil)))
section
variable {E : En} {o2 o3 o4 : Option IV}
theorem lp_gen {s : St} {it cnd : Ex} {r : List Int} {m T : Nat} (m2 : m ≤ 1000) (T1 : 1 ≤ T) (Tm : T ≤ m)
    (hs : ∀ w, RetS (Nx fun σ w' => w' = w ∧ σ = [some (.d (iT f)), some (.d (.int (m : Int))), some (.d (.list (iM r))), o3, o4]) (evS E s [some (.d (iT f)), some (.d (.int (m : Int))), o2, o3, o4] w))
    (hit : ∀ (x3 : Option IV) (w : W), evI E it [some (.d (iT f)), some (.d (.int (m : Int))), some (.d (.list (iM r))), x3, o4] w = .ok (.dat ((List.range m).map fun (k : Nat) => PyData.int (1 + k))) w)
    (hc : ∀ (p : Nat) (w : W), 1 ≤ p → p ≤ T → ∃ b : Bool, ev E cnd [some (.d (iT f)), some (.d (.int (m : Int))), some (.d (.list (iM r))), some (.d (.int (p : Int))), o4] w = .ok (.d (.bool b)) w ∧ (b = true ↔ p = T)) :
    fin w.length (evS E (bLG s it cnd) [some (.d (iT f)), some (.d (.int (m : Int))), o2, o3, o4] w) = .ok (.d (.tuple [.int (T : Int), .list (iM r)])) w := by
  refine Ret.eq (X := fun _ _ _ => False) ?_ (fun _ _ _ h => h)
  unfold bLG
  rw [Ret_fin, RetS_cons]
  refine RetS.nx (hs w) ?_
  rintro σ w1 ⟨rfl, rfl⟩
  rw [RetS_cons, RetS_for, hit, Ret_ok, forP_dat]
  refine ⟨by rw [List.length_map, List.length_range]; exact okl m2, ?_⟩
  refine forL_inv (fun k σ w2 => w2 = w1 ∧ k < T ∧ ∃ x3, σ = [some (.d (iT f)), some (.d (.int (m : Int))), some (.d (.list (iM r))), x3, o4]) ⟨rfl, T1, _, rfl⟩ ?_ ?_
  · rintro k z σ w2 hz ⟨rfl, hk, x3, rfl⟩
    obtain ⟨hkm, rfl⟩ := range_get2 hz
    rw [RetS_body, asg_nm, OptP_some]
    obtain ⟨p, hp⟩ : ∃ p : Nat, p = k + 1 := ⟨_, rfl⟩
    have ep : (1 : Int) + (k : Int) = (p : Int) := by omega
    rw [ep]
    obtain ⟨b, c1, c2⟩ := hc p w2 (by omega) (by omega)
    cases b with
    | true =>
      have e := c2.mp rfl
      subst e
      simp [c1, take_len, okl]
    | false =>
      have ne : ¬ p = T := fun e => by have := c2.mpr e; cases this
      simp [c1]
      omega
  · rintro σ w2 ⟨rfl, hk, x3, rfl⟩
    rw [List.length_map, List.length_range] at hk
    omega
end
theorem s19 (hD : 2 ≤ D) (hf : Sm 5 f) (lf : f.length ≤ 7) {m T : Nat} (m1 : 1 ≤ m) (m2 : m ≤ 1000) (hT : IsPer f m T) (w : W) : cal D 19 [.d (iT f), .d (.int (m : Int))] w = .ok (.d (.tuple [.int (T : Int), .list (iM (rowR f m m))])) w := by
  obtain ⟨d, rfl⟩ := up hD
  rw [e19]
  have Tm : T ≤ m := Nat.le_of_dvd (by omega) hT.dv
  have rl := rowR_len f m m
  have om : okI (m : Int) = true := okI_small (by omega)
  show fin w.length (evS (En0 (d + 1)) (bLG (.asg (.nm 2) (.comp [4] (.bin .Mod (.blt .int (.cons (.call 18 (.cons (.var 0) (.cons (.var 4) .nil))) .nil)) (.var 1)) (.nm 4) (.rng (.cons (.var 1) .nil)) .nil)) bPerI bLC) [some (.d (iT f)), some (.d (.int (m : Int))), none, none, none] w) = _
  have rr := rng_ii (a := 1) (b := (m : Int) + 1) (by omega) (by omega) (by omega)
  rw [show ((m : Int) + 1 - 1).toNat = m by omega] at rr
  refine lp_gen m2 hT.t1 Tm (fun w => ?_) (fun x3 w => rng_hit w (ev_cst ..) (add_one w (by rw [ev_var]; rfl)) rr) (fun p w p1 pT => ?_)
  · obtain ⟨ns, hns⟩ : ∃ ns : List Int, ns = (List.range m).map fun (k : Nat) => (k : Int) := ⟨_, rfl⟩
    have c := map_int (f := ns) (h := fun n => rem f m n) (F := elF (isNil .nil) (.nm 4) (ev (En0 (d + 1)) .nil) (ev (En0 (d + 1)) (.bin .Mod (.blt .int (.cons (.call 18 (.cons (.var 0) (.cons (.var 4) .nil))) .nil)) (.var 1))) (wip [some (.d (iT f)), some (.d (.int (m : Int))), none, none, none] [4])) (w := w) (fun z hz => by
      rw [hns] at hz
      obtain ⟨k, hk, rfl⟩ := List.mem_map.mp hz
      have hk := List.mem_range.mp hk
      have h1 := s18 (D := d + 1) (by omega) (C := 20) (n := (k : Int)) hf (by omega) (by decide) (by omega) (by decide) (by decide) w
      refine Ret.eq (X := fun _ _ _ => False) ?_ (fun _ _ _ h => h)
      show Ret _ _ (elF true _ _ _ _ _ _)
      rw [Ret_elT]
      have m0 : ¬ (m : Int) = 0 := by omega
      have m0' : ¬ m = 0 := by omega
      simp [wip, h1, m0, m0', rem])
    have e1 : iM ns = (List.range m).map fun (k : Nat) => PyData.int k := by rw [hns, iM, List.map_map]; rfl
    have e2 : ns.map (fun n => rem f m n) = rowR f m m := by rw [hns, rowR, List.map_map]; rfl
    rw [e1, e2] at c
    simp only [evS_asgN, RetS_onE, Ret_comp, Ret_rng, evA_cons, evA_nil, Ret_bind, ev_var, Ret_ofO, slot_cons0, slot_cons, OptP_some, Ret_ok, purs_cons, purs_nil, Option.map_some, rng_nat (n := m) (by omega), compP_dat, List.length_map, List.length_range, okl m2, true_and, c, RetS_mk, List.set_cons_succ, List.set_cons_zero, Nx_next, and_self]
  · have fm : ((m : Int).fmod (p : Int) = 0) ↔ p ∣ m := by
      rw [Int.fmod_eq_emod_of_nonneg _ (by omega)]
      exact Int.dvd_iff_emod_eq_zero.symm.trans Int.ofNat_dvd
    have eq := eq_lM (a := rowR f m m) (b := (rowR f m m).drop p ++ (rowR f m m).take p) (by rw [rl]; omega) (by rw [List.length_append, List.length_drop, List.length_take, rl]; omega)
    have s1 : slD (.list (iM (rowR f m m))) (some (p : Int)) none = some (.list (iM ((rowR f m m).drop p))) := by
      show some (PyData.list (cut _ _ _)) = _
      rw [cut_from]; unfold iM; rw [List.map_drop]
    have s2 : slD (.list (iM (rowR f m m))) none (some (p : Int)) = some (.list (iM ((rowR f m m).take p))) := by
      show some (PyData.list (cut _ _ _)) = _
      rw [cut_to]; unfold iM; rw [List.map_take]
    have ap : iM ((rowR f m m).drop p) ++ iM ((rowR f m m).take p) = iM ((rowR f m m).drop p ++ (rowR f m m).take p) := by unfold iM; rw [List.map_append]
    have al : okL ((iM ((rowR f m m).drop p)).length + (iM ((rowR f m m).take p)).length) = true := okl (by rw [iM_len, iM_len, List.length_drop, List.length_take, rl]; omega)
    have al2 := al
    rw [iM_len, iM_len] at al2
    have wc := whole_cond (f := f) (m := m) (p := p) m1 p1 (by omega)
    have p0 : ¬ (p : Int) = 0 := by omega
    have p0' : ¬ p = 0 := by omega
    have op : okI (p : Int) = true := okI_small (by omega)
    have bm : binD .Mod (.int (m : Int)) (.int (p : Int)) = some (.int ((m : Int).fmod (p : Int))) := by
      rw [mod_ii, if_pos (by simpa using p0')]
    by_cases dv : p ∣ m
    · have fm0 := fm.mpr dv
      refine ⟨decide (rowR f m m = (rowR f m m).drop p ++ (rowR f m m).take p), ?_, ?_⟩
      · refine Ret.eq (X := fun _ _ _ => False) ?_ (fun _ _ _ h => h)
        generalize rowR f m m = R0 at *
        generalize R0.drop p = R1 at *
        generalize R0.take p = R2 at *
        unfold bLC
        simp [bm, fm0, s1, s2, eq, op, om, ap, al, al2, -mod_ii]
      · rw [decide_eq_true_eq, wc dv]
        constructor
        · intro per
          have := Nat.le_of_dvd (by omega) (Int.ofNat_dvd.mp (hT.le p per))
          omega
        · intro e
          rw [e]; exact hT.per
    · have fm0 : ¬ (m : Int).fmod (p : Int) = 0 := fun z => dv (fm.mp z)
      refine ⟨false, ?_, ?_⟩
      · refine Ret.eq (X := fun _ _ _ => False) ?_ (fun _ _ _ h => h)
        unfold bLC
        simp [bm, fm0, -mod_ii]
      · constructor
        · intro h; cases h
        · intro e; rw [e] at dv; exact absurd hT.dv dv
theorem s20 (hD : 2 ≤ D) (hp : PotG w n j B) (hB : B + 10 < 2 ^ 40) :
    Ret (fun v w' => ∃ m : Nat, 1 ≤ m ∧ m ≤ 1000 ∧ v = .d (.int (m : Int)) ∧ PotG w' n j (B + 2) ∧ Upd n j w w') X (cal D 20 [.ref n] w) := by
  obtain ⟨d, rfl⟩ := up hD
  rw [e20]
  show Ret _ _ (fin w.length (evS (En0 (d + 1)) (B_law_m 10) [some (.ref n), none] w))
  unfold B_law_m
  rw [Ret_fin, RetS_cons]
  refine RetS.nx (M := fun σ w' => ∃ r : Int, 0 ≤ r ∧ r < 4 ∧ PotG w' n j (B + 1) ∧ Upd n j w w' ∧ σ = [some (.ref n), some (.d (.int r))]) ?_ ?_
  · simp
    refine Ret.imp (take10 (D := d + 1) (by omega) hp (by omega) (by decide) (by decide)) ?_
    rintro v w1 ⟨r, rfl, r0, r1, hp1, u1⟩
    simp
    exact ⟨r, r0, r1, hp1, u1, rfl⟩
  rintro σ w1 ⟨r, r0, r1, hp1, u1, rfl⟩
  have i1 : okI (1 : Int) = true := okI_small (by decide)
  by_cases c0 : r = 0
  · subst c0
    simp
    refine Ret.imp (take10 (D := d + 1) (by omega) hp1 (by omega) (by decide) (by decide)) ?_
    rintro v w2 ⟨q, rfl, q0, q1, hp2, u2⟩
    obtain ⟨M, hM⟩ : ∃ M : Nat, 1 + q = (M : Int) := ⟨(1 + q).toNat, by omega⟩
    simp [hM, (u1.trans u2).len', okI_small (show q.natAbs < 2 ^ 64 by omega)]
    exact ⟨M, by omega, by omega, rfl, hp2, u1.trans u2⟩
  by_cases c1 : r = 1
  · subst c1
    simp [okl]
    refine Ret.imp (take10 (D := d + 1) (by omega) hp1 (by omega) (by decide) (by decide)) ?_
    rintro v w2 ⟨q, rfl, q0, q1, hp2, u2⟩
    obtain ⟨M, m1, m2, e⟩ : ∃ M : Nat, 1 ≤ M ∧ M ≤ 1000 ∧ subD (.list [.int 4, .int 8, .int 9, .int 16, .int 25, .int 27, .int 32, .int 64, .int 81, .int 128, .int 243, .int 512, .int 625]) (.int q) = some (.int (M : Int)) := by
      have : q = 0 ∨ q = 1 ∨ q = 2 ∨ q = 3 ∨ q = 4 ∨ q = 5 ∨ q = 6 ∨ q = 7 ∨ q = 8 ∨ q = 9 ∨ q = 10 ∨ q = 11 ∨ q = 12 := by omega
      rcases this with rfl | rfl | rfl | rfl | rfl | rfl | rfl | rfl | rfl | rfl | rfl | rfl | rfl
      · exact ⟨4, by decide, by decide, rfl⟩
      · exact ⟨8, by decide, by decide, rfl⟩
      · exact ⟨9, by decide, by decide, rfl⟩
      · exact ⟨16, by decide, by decide, rfl⟩
      · exact ⟨25, by decide, by decide, rfl⟩
      · exact ⟨27, by decide, by decide, rfl⟩
      · exact ⟨32, by decide, by decide, rfl⟩
      · exact ⟨64, by decide, by decide, rfl⟩
      · exact ⟨81, by decide, by decide, rfl⟩
      · exact ⟨128, by decide, by decide, rfl⟩
      · exact ⟨243, by decide, by decide, rfl⟩
      · exact ⟨512, by decide, by decide, rfl⟩
      · exact ⟨625, by decide, by decide, rfl⟩
    simp [e, (u1.trans u2).len']
    exact ⟨M, m1, m2, rfl, hp2, u1.trans u2⟩
  by_cases c2 : r = 2
  · subst c2
    simp [okl]
    refine Ret.imp (take10 (D := d + 1) (by omega) hp1 (by omega) (by decide) (by decide)) ?_
    rintro v w2 ⟨q, rfl, q0, q1, hp2, u2⟩
    obtain ⟨M, m1, m2, e⟩ : ∃ M : Nat, 1 ≤ M ∧ M ≤ 1000 ∧ subD (.list [.int 1, .int 2, .int 6, .int 12, .int 30, .int 60, .int 1000]) (.int q) = some (.int (M : Int)) := by
      have : q = 0 ∨ q = 1 ∨ q = 2 ∨ q = 3 ∨ q = 4 ∨ q = 5 ∨ q = 6 := by omega
      rcases this with rfl | rfl | rfl | rfl | rfl | rfl | rfl
      · exact ⟨1, by decide, by decide, rfl⟩
      · exact ⟨2, by decide, by decide, rfl⟩
      · exact ⟨6, by decide, by decide, rfl⟩
      · exact ⟨12, by decide, by decide, rfl⟩
      · exact ⟨30, by decide, by decide, rfl⟩
      · exact ⟨60, by decide, by decide, rfl⟩
      · exact ⟨1000, by decide, by decide, rfl⟩
    simp [e, (u1.trans u2).len']
    exact ⟨M, m1, m2, rfl, hp2, u1.trans u2⟩
  · simp [c0, c1, c2, okl]
    refine Ret.imp (take10 (D := d + 1) (by omega) hp1 (by omega) (by decide) (by decide)) ?_
    rintro v w2 ⟨q, rfl, q0, q1, hp2, u2⟩
    obtain ⟨M, hM⟩ : ∃ M : Nat, 1 + q = (M : Int) := ⟨(1 + q).toNat, by omega⟩
    simp [hM, (u1.trans u2).len', okI_small (show q.natAbs < 2 ^ 64 by omega)]
    exact ⟨M, by omega, by omega, rfl, hp2, u1.trans u2⟩
end Pv.k50
namespace Pv.k50
open PySem
variable {D : Nat} {w : W} {X : Nat → PyData → W → Prop} {f g : List Int} {n j B : Nat}
def L3b : St := match L_3 with
  | .for_ _ _ b => b
  | s => s
def L3i : St := match L3b with
  | .cons (.ifs _ b _) _ => b
  | s => s
def nth : Nat → St → St
  | 0, .cons a _ => a
  | n + 1, .cons _ r => nth n r
  | _, s => s
theorem row_at {m T : Nat} (hm : 1 ≤ m) (hT : IsPer f m T) (Tm : T ≤ m) (z : Int) : subD (.list (iM (rowR f m m))) (.int (z.fmod T)) = some (.int (rem f m z)) := by
  have t1 := hT.t1
  have z0 : 0 ≤ z.fmod T ∧ z.fmod T < T := by
    rw [Int.fmod_eq_emod_of_nonneg _ (by omega)]
    exact ⟨Int.emod_nonneg _ (by omega), Int.emod_lt_of_pos _ (by omega)⟩
  obtain ⟨i, hi⟩ : ∃ i : Nat, z.fmod T = (i : Int) := ⟨(z.fmod T).toNat, by omega⟩
  rw [← hT.at_ hm z, hi]
  refine sub_nat ?_
  unfold iM
  rw [List.getElem?_map, rowR_get (by omega)]; rfl
theorem same3 (a b : Int) (xs : List Int) (hl : xs.length ≤ 1000) (w : W) : cal 40 11 [.d (.list [.int a, .int b, .list (iM xs)]), .d (.list [.int a, .int b, .list (iM xs)])] w = .ok (.d (.bool true)) w :=
  s11 (n := 2) (D := 40) (by omega) (.lst (by simp) fun y hy => by
    simp only [List.mem_cons, List.not_mem_nil, or_false] at hy
    rcases hy with rfl | rfl | rfl
    · exact .int _
    · exact .int _
    · exact .lst (by rw [iM_len]; omega) fun z hz => by
        obtain ⟨c, _, rfl⟩ := List.mem_map.mp hz
        exact .int c) w
theorem same3' (xs ys : List Int) (a : Int) (hl : xs.length ≤ 1000) (hy : ys.length ≤ 1000) (w : W) : cal 40 11 [.d (.list [.list (iM xs), .int a, .list (iM ys)]), .d (.list [.list (iM xs), .int a, .list (iM ys)])] w = .ok (.d (.bool true)) w :=
  s11 (n := 2) (D := 40) (by omega) (.lst (by simp) fun y hy => by
    have li : ∀ l : List Int, l.length ≤ 1000 → SameD 1 (.list (iM l)) := fun l h => .lst (by rw [iM_len]; omega) fun z hz => by
      obtain ⟨c, _, rfl⟩ := List.mem_map.mp hz
      exact .int c
    simp only [List.mem_cons, List.not_mem_nil, or_false] at hy
    rcases hy with rfl | rfl | rfl
    · exact li _ hl
    · exact .int _
    · exact li _ (by assumption)) w
section
variable {x0 x1 x2 x4 x7 x8 : Option IV} {m T t : Nat}
theorem p3 (hd : HdI g) (hf : Sm 5 g) (lf : g.length ≤ 7) (m1 : 1 ≤ m) (m2 : m ≤ 1000) (hT : IsPer g m T) (ht : w[t]? = some (.lst (iM (rowR g m T)))) :
    RetS (Nx fun σ w' => w' = w ++ [.mix [.d (.int (T : Int)), .d (.int (T : Int)), .ref t]] ∧ σ = [x0, x1, x2, some (.d (iT g)), x4, some (.d (.int (m : Int))), some (.ref t), x7, x8, some (.d (.int (T : Int))), some (.d (.list (iM (rowR g m m))))]) (evS (En0 40) (nth 2 L3i) [x0, x1, x2, some (.d (iT g)), x4, some (.d (.int (m : Int))), some (.ref t), x7, x8, some (.d (.int (T : Int))), some (.d (.list (iM (rowR g m m))))] w) := by
  have Tm := Nat.le_of_dvd (by omega) hT.dv
  have a7 := fun w => s7 (D := 40) (by omega) hd hf lf m1 m2 hT w
  have pk : pick [IV.d (PyData.int (m : Int)), IV.d (iT g)] [1, 0] = some [.d (iT g), .d (.int (m : Int))] := rfl
  have sl : slD (.list (iM (rowR g m m))) none (some (T : Int)) = some (.list (iM (rowR g m T))) := by
    show some (PyData.list (cut _ _ _)) = _
    rw [cut_to, iM, ← List.map_take]
    unfold rowR iM
    rw [← List.map_take, List.take_range, Nat.min_eq_left Tm]
  have tl : t < w.length := (List.getElem?_eq_some_iff.mp ht).1
  have g6 : (w ++ [Cell.mix [.d (.int (T : Int)), .d (.int (T : Int)), .ref t]])[t]? = some (.lst (iM (rowR g m T))) := by rw [List.getElem?_append_left tl]; exact ht
  have sm := same3 (T : Int) (T : Int) (rowR g m T) (by rw [rowR_len]; omega) []
  generalize rowR g m m = R0 at *
  generalize rowR g m T = R1 at *
  have rr : rd2s (w ++ [Cell.mix [.d (.int (T : Int)), .d (.int (T : Int)), .ref t]]) [.ref w.length, .d (.list [.int (T : Int), .int (T : Int), .list (iM R1)])] = some [.list [.int (T : Int), .int (T : Int), .list (iM R1)], .list [.int (T : Int), .int (T : Int), .list (iM R1)]] := by
    simp [rd2s, rd2, rd1s, rd1, g6]
  have bo := borW_ok (i := 11) (Φ := cal 40) rr sm rfl
  unfold L3i L3b L_3
  dsimp only [nth]
  simp [a7, pk, okl, elOk, tl, sl, bo]
theorem p5 (hd : HdI g) (hf : Sm 5 g) (lf : g.length ≤ 7) (m1 : 1 ≤ m) (m2 : m ≤ 1000) (hT : IsPer g m T) {x6 : Option IV} :
    RetS (Nx fun σ w' => w' = w ++ [.lst (iM (rowR g m T)), .lst (iM [0]), .mix [.ref w.length, .d (.int 1), .ref (w.length + 1)]] ∧ σ = [x0, x1, x2, some (.d (iT g)), x4, some (.d (.int (m : Int))), x6, x7, x8, some (.d (.int (T : Int))), some (.d (.list (iM (rowR g m m))))]) (evS (En0 40) (nth 4 L3i) [x0, x1, x2, some (.d (iT g)), x4, some (.d (.int (m : Int))), x6, x7, x8, some (.d (.int (T : Int))), some (.d (.list (iM (rowR g m m))))] w) := by
  have Tm := Nat.le_of_dvd (by omega) hT.dv
  have h1 : IsPer g 1 1 := ⟨Nat.le_refl 1, Nat.dvd_refl 1, per_self g 1, fun q _ => Int.one_dvd q⟩
  have a7 := fun w => s7 (D := 40) (by omega) hd hf lf (m := 1) (by omega) (by omega) h1 w
  have a8 := fun w => s8 (D := 40) (by omega) hd hf lf m1 m2 hT w
  have a9 := fun w => s8 (D := 40) (by omega) hd hf lf (m := 1) (by omega) (by omega) h1 w
  have r1 : rowR g 1 1 = [0] := by
    show [rem g 1 ((0 : Nat) : Int)] = [0]
    have := rem_lt (f := g) (m := 1) (by omega) ((0 : Nat) : Int)
    rw [show rem g 1 ((0 : Nat) : Int) = 0 by omega]
  rw [r1] at a9
  have pk : pick [IV.d (PyData.int (m : Int)), IV.d (iT g)] [1, 0] = some [.d (iT g), .d (.int (m : Int))] := rfl
  have sl : slD (.list (iM (rowR g m m))) none (some (T : Int)) = some (.list (iM (rowR g m T))) := by
    show some (PyData.list (cut _ _ _)) = _
    rw [cut_to, iM, ← List.map_take]
    unfold rowR iM
    rw [← List.map_take, List.take_range, Nat.min_eq_left Tm]
  have sm := same3' (rowR g m T) [0] 1 (by rw [rowR_len]; omega) (by simp) []
  generalize rowR g m m = R0 at *
  generalize rowR g m T = R1 at *
  obtain ⟨W3, hW⟩ : ∃ W3, W3 = w ++ [Cell.lst (iM R1), .lst (iM [0]), .mix [.ref w.length, .d (.int 1), .ref (w.length + 1)]] := ⟨_, rfl⟩
  have g1 : W3[w.length]? = some (.lst (iM R1)) := by rw [hW, List.getElem?_append_right (Nat.le_refl _)]; simp
  have g2 : W3[w.length + 1]? = some (.lst (iM [0])) := by rw [hW, List.getElem?_append_right (by omega)]; simp
  have g3 : W3[w.length + 1 + 1]? = some (.mix [.ref w.length, .d (.int 1), .ref (w.length + 1)]) := by rw [hW, List.getElem?_append_right (by omega)]; simp [show w.length + 1 + 1 - w.length = 2 by omega]
  have l0 : (.list [.int 0] : PyData) = .list (iM [0]) := rfl
  have rr : rd2s W3 [.ref (w.length + 1 + 1), .d (.list [.list (iM R1), .int 1, .list (iM [0])])] = some [.list [.list (iM R1), .int 1, .list (iM [0])], .list [.list (iM R1), .int 1, .list (iM [0])]] := by
    simp [rd2s, rd2, rd1s, rd1, g1, g2, g3]
  have bo := borW_ok (i := 11) (Φ := cal 40) rr sm rfl
  rw [← hW]
  unfold L3i L3b L_3
  dsimp only [nth]
  have ap : w ++ [Cell.lst (iM R1), .lst (iM [0])] ++ [Cell.mix [.ref w.length, .d (.int 1), .ref (w.length + 1)]] = W3 := by rw [hW]; simp
  have ap2 : w ++ Cell.lst (iM R1) :: ([Cell.lst (iM [0]), Cell.mix [.ref w.length, .d (.int 1), .ref (w.length + 1)]]) = W3 := hW.symm
  have a9' := a9
  simp only [Int.natCast_one] at a7 a9'
  simp [a7, a8, a9', pk, okl, elOk, sl, l0, ap, ap2, bo, show w.length < w.length + 1 + 1 by omega]
end
end Pv.k50
namespace Pv.k50
open PySem
variable {D : Nat} {w : W} {X : Nat → PyData → W → Prop} {f g : List Int} {n j B : Nat}
section
variable {x0 x1 x2 x4 x6 x7 x8 : Option IV} {m T t : Nat}
def nloop : St := match nth 5 L3i with
  | .for_ _ _ b => b
  | s => s
def bloop : St := match nth 6 L3i with
  | .for_ _ _ b => b
  | s => s
theorem p6 (hf : Sm 5 g) (lf : g.length ≤ 7) (m1 : 1 ≤ m) (m2 : m ≤ 1000) (hT : IsPer g m T) :
    RetS (Nx fun σ w' => w' = w ∧ ∃ x7, σ = [x0, x1, x2, some (.d (iT g)), x4, some (.d (.int (m : Int))), x6, x7, x8, some (.d (.int (T : Int))), some (.d (.list (iM (rowR g m m))))]) (evS (En0 40) (nth 5 L3i) [x0, x1, x2, some (.d (iT g)), x4, some (.d (.int (m : Int))), x6, x7, x8, some (.d (.int (T : Int))), some (.d (.list (iM (rowR g m m))))] w) := by
  have Tm := Nat.le_of_dvd (by omega) hT.dv
  have t1 := hT.t1
  have ra := fun z => row_at m1 hT Tm z
  generalize rowR g m m = R0 at *
  rw [show nth 5 L3i = .for_ (.nm 7) (.rng (.cons (.neg (.cst (.int (40)))) (.cons (.cst (.int (41))) .nil))) nloop from rfl]
  have e1 : ∀ σ : Sl, ev (En0 40) (.neg (.cst (.int 40))) σ w = .ok (.d (.int (-40))) w := fun σ => by
    refine Ret.eq (X := fun _ _ _ => False) ?_ (fun _ _ _ h => h)
    simp
  have hit := rng_hit w (e1 [x0, x1, x2, some (.d (iT g)), x4, some (.d (.int (m : Int))), x6, x7, x8, some (.d (.int (T : Int))), some (.d (.list (iM R0)))]) (ev_cst ..) (rng_ii (a := -40) (b := 41) (by decide) (by decide) (by decide))
  rw [RetS_for, hit, Ret_ok, forP_dat]
  refine ⟨by rw [List.length_map, List.length_range]; rfl, ?_⟩
  refine forL_inv (fun i σ w' => w' = w ∧ ∃ x7, σ = [x0, x1, x2, some (.d (iT g)), x4, some (.d (.int (m : Int))), x6, x7, x8, some (.d (.int (T : Int))), some (.d (.list (iM R0)))]) ⟨rfl, _, rfl⟩ ?_ ?_
  · rintro i z σ w2 hz ⟨rfl, x7, rfl⟩
    obtain ⟨hi, rfl⟩ := range_get2 hz
    have hi : i < 81 := hi
    obtain ⟨c, hc⟩ : ∃ c : Int, c = -40 + (i : Int) := ⟨_, rfl⟩
    rw [← hc]
    have v1 := s18 (D := 40) (by omega) (C := 20) (n := c) hf (by omega) (by decide) (by omega) (by decide) (by decide) w2
    have r1 := ra c
    have r2 : (ivI g c).fmod (m : Int) = rem g m c := rfl
    have m0 : ¬ (m : Int) = 0 := by omega
    have m0' : ¬ m = 0 := by omega
    have T0 : ¬ (T : Int) = 0 := by omega
    have T0' : ¬ T = 0 := by omega
    have oc : okI c = true := okI_small (by omega)
    rw [RetS_body, asg_nm, OptP_some]
    unfold nloop L3i L3b L_3
    dsimp only [nth]
    generalize rem g m c = u at *
    simp [v1, r1, r2, m0, m0', T0, T0', oc]
  · rintro σ w2 ⟨rfl, x7, rfl⟩
    rw [Nx_next]
    exact ⟨rfl, _, rfl⟩
theorem p7 (hd : HdI g) (hf : Sm 5 g) (lf : g.length ≤ 7) (m1 : 1 ≤ m) (m2 : m ≤ 1000) (hT : IsPer g m T) {x10 : Option IV} :
    RetS (Nx fun σ w' => w' = w ∧ ∃ x8, σ = [x0, x1, x2, some (.d (iT g)), x4, some (.d (.int (m : Int))), x6, x7, x8, some (.d (.int (T : Int))), x10]) (evS (En0 40) (nth 6 L3i) [x0, x1, x2, some (.d (iT g)), x4, some (.d (.int (m : Int))), x6, x7, x8, some (.d (.int (T : Int))), x10] w) := by
  have t1 := hT.t1
  have Tm := Nat.le_of_dvd (by omega) hT.dv
  rw [show nth 6 L3i = .for_ (.nm 8) (.seq (.tup (.cons (.cst (.int (2))) (.cons (.cst (.int (3))) (.cons (.cst (.int (5))) (.cons (.cst (.int (7))) .nil)))))) bloop from rfl, RetS_for, Ret_seq]
  simp only [Ret_tup, evA_cons, evA_nil, Ret_bind, ev_cst, Ret_ok, purs_cons, purs_nil, Option.map_some, OptP_some, List.length_cons, List.length_nil, okl (k := 0 + 1 + 1 + 1 + 1) (by omega), true_and, toIt_t, forP_dat]
  refine forL_inv (fun i σ w' => w' = w ∧ ∃ x8, σ = [x0, x1, x2, some (.d (iT g)), x4, some (.d (.int (m : Int))), x6, x7, x8, some (.d (.int (T : Int))), x10]) ⟨rfl, _, rfl⟩ ?_ ?_
  · rintro i z σ w2 hz ⟨rfl, x8, rfl⟩
    obtain ⟨q, q1, q2, rfl⟩ : ∃ q : Nat, 1 ≤ q ∧ q ≤ 7 ∧ z = .int (q : Int) := by
      have := List.mem_of_getElem? hz
      simp only [List.mem_cons, List.not_mem_nil, or_false] at this
      rcases this with rfl | rfl | rfl | rfl
      · exact ⟨2, by decide, by decide, rfl⟩
      · exact ⟨3, by decide, by decide, rfl⟩
      · exact ⟨5, by decide, by decide, rfl⟩
      · exact ⟨7, by decide, by decide, rfl⟩
    have q0 : ¬ (q : Int) = 0 := by omega
    have q0' : ¬ q = 0 := by omega
    have om : okI (m : Int) = true := okI_small (by omega)
    have oT : okI (T : Int) = true := okI_small (by omega)
    rw [RetS_body, asg_nm, OptP_some]
    simp only [List.set_cons_succ, List.set_cons_zero]
    have fm : ((m : Int).fmod (q : Int) = 0) ↔ q ∣ m := by
      rw [Int.fmod_eq_emod_of_nonneg _ (by omega)]
      exact Int.dvd_iff_emod_eq_zero.symm.trans Int.ofNat_dvd
    by_cases dv : q ∣ m
    · have f0 := fm.mpr dv
      have h1 : 1 ≤ m / q := Nat.div_pos (Nat.le_of_dvd (by omega) dv) (by omega)
      obtain ⟨S, hS⟩ := isper_ex g h1
      have Sd : S ∣ T := Int.ofNat_dvd.mp (hS.le T fun z => Int.dvd_trans (Int.ofNat_dvd.mpr (Nat.div_dvd_of_dvd dv)) (hT.per z))
      have S1 := hS.t1
      have Sm_ := Nat.le_of_dvd (by omega) hS.dv
      have mq : m / q ≤ m := Nat.div_le_self _ _
      have a7 := s7 (D := 40) (by omega) hd hf lf h1 (by omega) hS w2
      have fd : (m : Int).fdiv (q : Int) = ((m / q : Nat) : Int) := by
        rw [Int.fdiv_eq_ediv_of_nonneg _ (by omega)]; rfl
      have g0 : (T : Int).fmod (S : Int) = 0 := by
        rw [Int.fmod_eq_emod_of_nonneg _ (by omega)]
        exact Int.emod_eq_zero_of_dvd (Int.ofNat_dvd.mpr Sd)
      have S0 : ¬ (S : Int) = 0 := by omega
      have S0' : ¬ S = 0 := by omega
      have dvo : okDiv (m : Int) (q : Int) = true := okDiv_small (by omega) (by
        have : (q : Int).natAbs ≠ 0 := by omega
        exact (Nat.log2_lt this).mpr (Nat.lt_of_lt_of_le (show (q : Int).natAbs < 2 ^ 10 by omega) (Nat.pow_le_pow_right (by decide) (by decide))))
      generalize m / q = mq' at *
      unfold bloop L3i L3b L_3
      dsimp only [nth]
      simp [f0, q0, q0', fd, a7, g0, S0, S0', dvo, om, oT]
    · have f0 : ¬ (m : Int).fmod (q : Int) = 0 := fun z => dv (fm.mp z)
      unfold bloop L3i L3b L_3
      dsimp only [nth]
      simp [f0, q0, q0', om]
  · rintro σ w2 ⟨rfl, x8, rfl⟩
    rw [Nx_next]
    exact ⟨rfl, _, rfl⟩
def Kp (w w' : W) : Prop := ∀ i, i < w.length → w'[i]? = w[i]?
theorem gbody {x9 x10 : Option IV} {K : Fl → W → Prop} (hd : HdI g) (hl : g.length ≤ 900) (m1 : 1 ≤ m) (m2 : m ≤ 1000)
    (hK : ∀ (x6 x7 x8 x9 x10 : Option IV) (w' : W), Kp w w' → K (.next [x0, x1, x2, some (.d (iT g)), x4, some (.d (.int (m : Int))), x6, x7, x8, x9, x10]) w') :
    RetS K (evS (En0 40) L3b [x0, x1, x2, some (.d (iT g)), x4, some (.d (.int (m : Int))), x6, x7, x8, x9, x10] w) := by
  have ft := s15 (D := 40) (by omega) (f := g) (most := 6) (by omega) w
  rw [show L3b = .cons (.ifs (.call 15 (.cons (.var 3) (.cons (.cst (.int (6))) .nil))) (.cons (nth 0 L3i) (.cons (nth 1 L3i) (.cons (nth 2 L3i) (.cons (nth 3 L3i) (.cons (nth 4 L3i) (.cons (nth 5 L3i) (.cons (nth 6 L3i) .nil))))))) .nil) .nil from rfl, RetS_cons]
  simp only [RetS_ifs, ev_call, evA_cons, evA_nil, Ret_bind, ev_var, ev_cst, Ret_ofO, slot_cons0, slot_cons, OptP_some, Ret_ok, En0_Φ, ft, BoolP_b]
  by_cases hf : (decide ((g.length : Int) ≤ 6 + 1) && g.all fun a => decide (a.natAbs ≤ 20)) = true
  · rw [if_pos hf]
    rw [Bool.and_eq_true, decide_eq_true_eq, List.all_eq_true] at hf
    have l7 : g.length ≤ 7 := by omega
    have sf : Sm 5 g := fun a ha => by have := of_decide_eq_true (hf.2 a ha); omega
    obtain ⟨T, hT⟩ := isper_ex g m1
    have Tm := Nat.le_of_dvd (by omega) hT.dv
    refine RetS.nx (M := fun σ w' => Kp w w' ∧ ∃ x6 x7 x8 x9 x10, σ = [x0, x1, x2, some (.d (iT g)), x4, some (.d (.int (m : Int))), x6, x7, x8, x9, x10]) ?_ ?_
    · rw [RetS_cons]
      have a19 := s19 (D := 40) (by omega) sf l7 m1 m2 hT w
      refine RetS.nx (M := fun σ w' => w' = w ∧ σ = [x0, x1, x2, some (.d (iT g)), x4, some (.d (.int (m : Int))), x6, x7, x8, some (.d (.int (T : Int))), some (.d (.list (iM (rowR g m m))))]) ?_ ?_
      · generalize rowR g m m = R0 at *
        unfold L3i L3b L_3
        dsimp only [nth]
        simp [a19]
      rintro σ w1 ⟨rfl, rfl⟩
      rw [RetS_cons]
      have a8 := s8 (D := 40) (by omega) hd sf l7 m1 m2 hT w1
      refine RetS.nx (M := fun σ w' => w' = w1 ++ [.lst (iM (rowR g m T))] ∧ σ = [x0, x1, x2, some (.d (iT g)), x4, some (.d (.int (m : Int))), some (.ref w1.length), x7, x8, some (.d (.int (T : Int))), some (.d (.list (iM (rowR g m m))))]) ?_ ?_
      · generalize rowR g m m = R0 at *
        generalize rowR g m T = R1 at *
        unfold L3i L3b L_3
        dsimp only [nth]
        simp [a8]
      rintro σ w2 ⟨rfl, rfl⟩
      have g6 : (w1 ++ [Cell.lst (iM (rowR g m T))])[w1.length]? = some (.lst (iM (rowR g m T))) := last_get
      rw [RetS_cons]
      refine RetS.nx (p3 hd sf l7 m1 m2 hT g6) ?_
      rintro σ w3 ⟨rfl, rfl⟩
      rw [RetS_cons]
      obtain ⟨w3, hw3⟩ : ∃ w3, w3 = w1 ++ [Cell.lst (iM (rowR g m T))] ++ [Cell.mix [.d (.int (T : Int)), .d (.int (T : Int)), .ref w1.length]] := ⟨_, rfl⟩
      rw [← hw3]
      have g7 : w3[w1.length]? = some (.lst (iM (rowR g m T))) := by rw [hw3, List.getElem?_append_left (by simp)]; exact g6
      have kp3 : Kp w1 w3 := fun i hi => by rw [hw3, List.getElem?_append_left (by simp; omega), List.getElem?_append_left hi]
      have R1l : (iM (rowR g m T)).length < 16777216 := by rw [iM_len, rowR_len]; omega
      refine RetS.nx (M := fun σ w' => Kp w1 w' ∧ σ = [x0, x1, x2, some (.d (iT g)), x4, some (.d (.int (m : Int))), some (.ref w1.length), x7, x8, some (.d (.int (T : Int))), some (.d (.list (iM (rowR g m m))))]) ?_ ?_
      · have kp4 : ∀ c : Cell, Kp w1 (w3.set w1.length c) := fun c i hi => by rw [List.getElem?_set_ne (by omega)]; exact kp3 i hi
        generalize rowR g m m = R0 at *
        generalize rowR g m T = R1 at *
        unfold L3i L3b L_3
        dsimp only [nth]
        simp [rd_ref, g7, rdC_l, isLst, mthW, R1l]
        rw [iM_len] at R1l
        exact ⟨R1l, kp4 _⟩
      rintro σ w4 ⟨kp4, rfl⟩
      rw [RetS_cons]
      refine RetS.nx (p5 hd sf l7 m1 m2 hT) ?_
      rintro σ w5 ⟨rfl, rfl⟩
      have kp5 : Kp w1 (w4 ++ [Cell.lst (iM (rowR g m T)), .lst (iM [0]), .mix [.ref w4.length, .d (.int 1), .ref (w4.length + 1)]]) := fun i hi => by
        have h4 := kp4 i hi
        have : i < w4.length := by
          by_cases q : i < w4.length
          · exact q
          · rw [List.getElem?_eq_none (by omega), List.getElem?_eq_getElem hi] at h4; cases h4
        rw [List.getElem?_append_left this]; exact h4
      rw [RetS_cons]
      refine RetS.nx (p6 sf l7 m1 m2 hT) ?_
      rintro σ w6 ⟨rfl, y7, rfl⟩
      rw [RetS_cons]
      refine RetS.nx (p7 hd sf l7 m1 m2 hT) ?_
      rintro σ w7 ⟨rfl, y8, rfl⟩
      rw [evS_nil]
      exact ⟨kp5, _, _, _, _, _, rfl⟩
    rintro σ w2 ⟨kp, y6, y7, y8, y9, y10, rfl⟩
    rw [evS_nil]
    exact hK _ _ _ _ _ _ kp
  · rw [if_neg hf, evS_nil]
    exact hK _ _ _ _ _ _ fun _ _ => rfl
end
def InvT (ns : List Int) (σ : Sl) : Prop := ∃ (x1 x2 x3 x4 x5 x6 x7 x8 x9 x10 : Option IV), σ = [some (.d (.list (iM ns))), x1, x2, x3, x4, x5, x6, x7, x8, x9, x10]
theorem turn_ok {ns : List Int} (hn : ns.length ≤ 63) {k : Nat} (hk : k < 4) {σ : Sl} {w : W} {K : Fl → W → Prop} (h : InvT ns σ) (go : ∀ σ w, InvT ns σ → K (.next σ) w) :
    RetS K (evS (En0 40) (.cons L_1 (.cons L_2 (.cons L_3 .nil))) (σ.set 1 (some (.d (.int (k : Int))))) w) := by
  obtain ⟨x1, x2, x3, x4, x5, x6, x7, x8, x9, x10, rfl⟩ := h
  simp only [List.set_cons_succ, List.set_cons_zero]
  rw [RetS_cons]
  refine RetS.nx (M := fun σ w' => ∃ n j, PotG w' n j 0 ∧ σ = [some (.d (.list (iM ns))), some (.d (.int (k : Int))), some (.ref n), x3, x4, x5, x6, x7, x8, x9, x10]) ?_ ?_
  · unfold L_1
    simp
    refine Ret.imp (s9 (D := 40) (by omega) (ns := ns) (deep := (k : Int)) (rounds := 4) hn (by omega) (by omega) (by decide) w) ?_
    rintro v w' ⟨rfl, hp, hl, he⟩
    exact ⟨w.length + 1, ⟨_, hp⟩, rfl⟩
  rintro σ w1 ⟨n, j, hp, rfl⟩
  rw [RetS_cons]
  refine RetS.nx (M := fun σ w' => ∃ (f : List Int) (m : Nat), Dr 7 f ∧ 1 ≤ m ∧ m ≤ 1000 ∧ σ = [some (.d (.list (iM ns))), some (.d (.int (k : Int))), some (.ref n), x3, some (.d (iT f)), some (.d (.int (m : Int))), x6, x7, x8, x9, x10]) ?_ ?_
  · unfold L_2
    simp
    refine Ret.imp (s17 (D := 40) (by omega) (most := 6) (by decide) hp (by omega)) ?_
    rintro v w2 ⟨f, rfl, hf, hp2, u2⟩
    simp
    refine Ret.imp (s20 (D := 40) (by omega) hp2 (by omega)) ?_
    rintro v w3 ⟨m, m1, m2, rfl, hp3, u3⟩
    simp
    exact ⟨f, hf, m, m1, m2, rfl, rfl⟩
  rintro σ w2 ⟨f, m, hf, m1, m2, rfl⟩
  rw [RetS_cons]
  have fl := hf.len
  have s10 : Sm 1 [1, 0] := fun a ha => by simp at ha; rcases ha with rfl | rfl <;> decide
  have s11' : Sm 1 [1, 1] := fun a ha => by simp at ha; subst ha; decide
  have d10 : HdI [1, 0] := fun a ha => by cases ha; decide
  have d11 : HdI [1, 1] := fun a ha => by cases ha; decide
  have m1' := s14 (D := 40) (by omega) (f := [1, 1]) (g := [1, 0]) s11' s10 (by decide) (by decide) (by simp) (by simp) w2
  have m2' := s14 (D := 40) (by omega) (f := f) (g := [1, 0]) hf.sm s10 (by decide) (by decide) (by omega) (by simp) w2
  have m3' := s13 (D := 40) (by omega) (f := f) (g := [1, 0]) (by omega) (by simp) w2
  obtain ⟨xs, hxs⟩ : ∃ xs : List (List Int), xs = [f, mulI [1, 1] [1, 0], mulI f [1, 0], addI f [1, 0]] := ⟨_, rfl⟩
  have xo : ∀ x ∈ xs, HdI x ∧ x.length ≤ 900 := fun x hx => by
    rw [hxs] at hx
    simp only [List.mem_cons, List.not_mem_nil, or_false] at hx
    have a1 := mul_len f [1, 0]
    have a2 := mul_len [1, 1] [1, 0]
    have a3 := add_len f [1, 0]
    simp only [List.length_cons, List.length_nil] at a1 a2 a3
    rcases hx with q | q | q | q <;> rw [q]
    · exact ⟨hf.hd, by omega⟩
    · exact ⟨HdI_mul d11 d10, by omega⟩
    · exact ⟨HdI_mul hf.hd d10, by omega⟩
    · exact ⟨HdI_add _ _, by omega⟩
  have ev1 : Ret (fun J w' => J = .dat (xs.map iT) ∧ w' = w2) (fun _ _ _ => False) (evI (En0 40) (.seq (.tup (.cons (.var 4) (.cons (.call 14 (.cons (.tup (.cons (.cst (.int (1))) (.cons (.cst (.int (1))) .nil))) (.cons (.tup (.cons (.cst (.int (1))) (.cons (.cst (.int (0))) .nil))) .nil))) (.cons (.call 14 (.cons (.var 4) (.cons (.tup (.cons (.cst (.int (1))) (.cons (.cst (.int (0))) .nil))) .nil))) (.cons (.call 13 (.cons (.var 4) (.cons (.tup (.cons (.cst (.int (1))) (.cons (.cst (.int (0))) .nil))) .nil))) .nil)))))) [some (.d (.list (iM ns))), some (.d (.int (k : Int))), some (.ref n), x3, some (.d (iT f)), some (.d (.int (m : Int))), x6, x7, x8, x9, x10] w2) := by
    have t1 : PyData.tuple [.int 1, .int 0] = iT [1, 0] := rfl
    have t2 : PyData.tuple [.int 1, .int 1] = iT [1, 1] := rfl
    rw [Ret_seq, Ret_tup]
    simp [okl, t1, t2, m1', m2', m3']
    rw [hxs]; rfl
  refine RetS.nx (M := fun σ w' => InvT ns σ) ?_ ?_
  · rw [show L_3 = .for_ (.nm 3) (.seq (.tup (.cons (.var 4) (.cons (.call 14 (.cons (.tup (.cons (.cst (.int (1))) (.cons (.cst (.int (1))) .nil))) (.cons (.tup (.cons (.cst (.int (1))) (.cons (.cst (.int (0))) .nil))) .nil))) (.cons (.call 14 (.cons (.var 4) (.cons (.tup (.cons (.cst (.int (1))) (.cons (.cst (.int (0))) .nil))) .nil))) (.cons (.call 13 (.cons (.var 4) (.cons (.tup (.cons (.cst (.int (1))) (.cons (.cst (.int (0))) .nil))) .nil))) .nil)))))) L3b from rfl]
    rw [RetS_for]
    refine Ret.mono ev1 ?_ (fun _ _ _ h => h.elim)
    rintro J w3 ⟨rfl, rfl⟩
    rw [forP_dat]
    have xl : xs.length = 4 := by rw [hxs]; rfl
    refine ⟨okl (by rw [List.length_map]; omega), ?_⟩
    refine forL_inv (fun i σ w' => ∃ x3 x6 x7 x8 x9 x10, σ = [some (.d (.list (iM ns))), some (.d (.int (k : Int))), some (.ref n), x3, some (.d (iT f)), some (.d (.int (m : Int))), x6, x7, x8, x9, x10]) ⟨_, _, _, _, _, _, rfl⟩ ?_ ?_
    · rintro i z σ w4 hz ⟨x3, x6, x7, x8, x9, x10, rfl⟩
      obtain ⟨g, hg, rfl⟩ := List.mem_map.mp (List.mem_of_getElem? hz)
      rw [RetS_body, asg_nm, OptP_some]
      simp only [List.set_cons_succ, List.set_cons_zero]
      refine gbody (xo g hg).1 (xo g hg).2 m1 m2 fun x6 x7 x8 x9 x10 w5 _ => ?_
      rw [loopK_next]
      exact ⟨_, _, _, _, _, _, rfl⟩
    · rintro σ w4 ⟨x3, x6, x7, x8, x9, x10, rfl⟩
      rw [Nx_next]
      exact ⟨_, _, _, _, _, _, _, _, _, _, rfl⟩
  intro σ w3 hi
  rw [evS_nil]
  exact go _ _ hi
theorem pure_law (ns : List Int) (hn : ns.length ≤ 63) : ∃ w', cal 41 21 [.d (.list (ns.map .int))] [] = .ok (.d (.bool true)) w' := by
  suffices h : Ret (fun v w' => v = .d (.bool true)) (fun _ _ _ => False) (cal (40 + 1) 21 [.d (.list (iM ns))] []) by
    obtain ⟨v, w', e, rfl⟩ := Ret.ex' h
    exact ⟨w', e⟩
  rw [e21, Ret_fin]
  unfold b21
  rw [RetS_cons]
  refine RetS.nx (M := fun σ w' => InvT ns σ) ?_ ?_
  · rw [RetS_for, Ret_rng]
    simp only [evA_cons, evA_nil, ev_cst, Ret_bind, Ret_ok, purs_cons, purs_nil, Option.map_some, OptP_some, show rngD [.int 4] = some ((List.range 4).map fun (k : Nat) => .int k) from rng_nat (n := 4) (by decide), forP_dat]
    refine ⟨rfl, ?_⟩
    refine forL_inv (fun k σ w' => InvT ns σ) ⟨_, _, _, _, _, _, _, _, _, _, rfl⟩ ?_ ?_
    · intro k z σ w' hz hi
      obtain ⟨hk, rfl⟩ := range_get hz
      rw [RetS_body, asg_nm, OptP_some]
      exact turn_ok hn hk hi fun σ w h => h
    · intro σ w' h
      exact h
  rintro σ w2 ⟨x1, x2, x3, x4, x5, x6, x7, x8, x9, x10, rfl⟩
  simp
end Pv.k50
namespace Pv.k50
theorem pure_all (ns : List Int) (h : ns.length ≤ 63) (_ : ∀ z ∈ ns, PySem.Builtin.Int.intBits z ≤ 1048576) : ∃ w', callF (prog L.fs) qq L.G (40 + 1) li [.d (.list (ns.map .int))] [] = .ok (.d (.bool true)) w' := by
  rw [← cal_eq]
  exact pure_law ns h
end Pv.k50
open PySem PySem.W PySem.Calls PyProof.Rows in
set_option maxRecDepth 100000 in
set_option maxHeartbeats 0 in
theorem PySem.Challenge.cw_wholesigns_k50_whole_periods_and_remaind_holds : PySem.Challenge.rw_wholesigns_k50_whole_periods_and_remaind.Holds := by
  w_on; o_law
  refine HandSHeadRun.head_imp (r := Pv.k50.RwL) (q := Pv.k50.q0) (H := Pv.k50.L.hook 4) (ob := Pv.k50.L.ob 4) (M := 20000) (loose := Pv.k50.loose) (d := HandSHeadRun.topDef Pv.k50.RwL.prog 29) (kwd := []) (Pv.k50.L.ob_eq 4) Pv.k50.run (by kernel_rfl) (by kernel_rfl) (by kernel_rfl) (by rfl) (by first | assumption | decide +kernel) (by decide +kernel) ⟨rfl, rfl, rfl, rfl, rfl, by decide +kernel⟩ ?hw ?hc
  case hw => w_witness2
  case hc => exact Pv.law_V (l := PySem.Challenge.rw_wholesigns_k50_whole_periods_and_remaind) (L := Pv.k50.L) (li := Pv.k50.li) (k := 40) rfl (by kernel_rfl) (by kernel_rfl) ⟨rfl, by decide, by decide⟩ Pv.k50.fine Pv.k50.pure_all
