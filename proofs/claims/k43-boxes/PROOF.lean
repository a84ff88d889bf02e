import PyProof.Rows.All
import HandS.ForMost
import HandS.TupAny
import HandS.TupMul
import HandS.Deep
import HandS.IsInst
import HandS.Style
import HandS.Gcd
import HandS.Wide
import HandS.WideBits
import HandS.Zip
import PyProof.Rows.RuleB_bool
import HandS.EndBits
import PySem.Challenge.RW_rootfast_k43_boxes
set_option Elab.async false
set_option linter.all false
set_option maxRecDepth 100000
/-! EvA: a small language for the program's defs (slots, no places in a text) and what its terms are worth. -/
namespace Ev
open PySem
abbrev D := PyData
abbrev Sl := List (Option D)
abbrev lim : Nat := 1000000

inductive Bop | add | sub | mul | fdiv | mod | pow | shl | band
  deriving DecidableEq
inductive Cop | eq | ne | lt | le | gt | ge | is | isnot | inn | notin
  deriving DecidableEq
inductive Ty | int | bool | str | tuple | list
  deriving DecidableEq
inductive Blt | len | int | abs | gcd | comb | sum | all | any | list | tuple | sorted | str | min | max | dict
  deriving DecidableEq
inductive Mth | get
  deriving DecidableEq
inductive Src | it | rng | zip | enum
  deriving DecidableEq

mutual
inductive Tg where
  | nm (i : Nat)
  | tp (ts : Tgs)
inductive Tgs where
  | nil
  | cons (t : Tg) (ts : Tgs)
end
mutual
inductive E where
  | var (i : Nat)
  | non | bl (b : Bool) | int (i : Int) | str (x : Str)
  | glob (g : Nat)
  | tup (es : Es) | lst (es : Es) | edic (t : Bool)
  | bin (o : Bop) (a b : E)
  | neg (a : E) | not (a : E)
  | and (es : Es) | or (es : Es)
  | cmp (o : Cop) (a b : E)
  | chain (o o' : Cop) (a b c : E)
  | ite (c a b : E)
  | ix (a i : E)
  | sl (a lo hi : E)
  | rev (a : E)
  | nop
  | call (f : Nat) (w : Bool) (es : Es)
  | blt (b : Blt) (es : Es)
  | isi (a : E) (t : Ty)
  | mth (m : Mth) (o : E) (es : Es)
  | comp (elt : E) (tg : Tg) (s : Src) (src : Es) (c : E)
  | comp2 (elt : E) (t1 : Tg) (s1 : Src) (src1 : Es) (t2 : Tg) (s2 : Src) (src2 : Es)
inductive Es where
  | nil
  | cons (e : E) (es : Es)
end
mutual
inductive S where
  | asg (i : Nat) (e : E)
  | asgO (i : Nat) (e : E)
  | newD (i : Nat)
  | mov (i j : Nat)
  | unp (t : Tg) (e : E)
  | par (i j : Nat) (a b : E)
  | aug (i : Nat) (o : Bop) (e : E)
  | app (i : Nat) (e : E)
  | appM (i j : Nat)
  | ext (i : Nat) (e : E)
  | setL (i : Nat) (k e : E)
  | setD (i : Nat) (k e : E)
  | pop (i : Nat)
  | callM (f : Nat) (i : Nat) (es : Es)
  | ifs (c : E) (a b : Ss)
  | whl (c : E) (b : Ss)
  | for_ (t : Tg) (s : Src) (src : Es) (b : Ss)
  | ret (e : E)
  | brk | cnt | pass | stuck
inductive Ss where
  | nil
  | cons (s : S) (ss : Ss)
end
structure Fn where
  np : Nat
  ns : Nat
  own : List Nat
  mu : Bool
  fr : Bool
  body : Ss

/-! ### what is known to the module: constants -/
def q01 : D := .tuple [.int 0, .int 1]
def q11 : D := .tuple [.int 1, .int 1]
def glD : Nat → D
  | 0 => q01
  | 1 => q11
  | 2 => .tuple [q01, q01]
  | 3 => .int 60
  | 4 => .int 40
  | 5 => .int 20
  | 6 => .int 12
  | 7 => .int 14
  | _ => .none

/-! ### slots -/
def sget : Sl → Nat → Option D
  | [], _ => none
  | o :: _, 0 => o
  | _ :: σ, n + 1 => sget σ n
def sset : Sl → Nat → Option D → Sl
  | [], _, _ => []
  | _ :: σ, 0, x => x :: σ
  | o :: σ, n + 1, x => o :: sset σ n x
def swipe (σ : Sl) : List Nat → Sl
  | [] => σ
  | v :: vs => sset (swipe σ vs) v none

/-! ### values -/
def b2i (b : Bool) : Int := if b then 1 else 0
def mulOk (i j : Int) : Bool := decide (i.natAbs.log2 + j.natAbs.log2 < 100000000)
def divOk (j : Int) : Bool := decide (j ≠ 0) && decide (j.natAbs.log2 < 9000)
def binop : Bop → D → D → Option D
  | .add, .int i, .int j => some (.int (i + j))
  | .add, .tuple xs, .tuple ys => if xs.length + ys.length ≤ lim then some (.tuple (xs ++ ys)) else none
  | .add, .list xs, .list ys => if xs.length + ys.length ≤ lim then some (.list (xs ++ ys)) else none
  | .add, .str x, .str y => if x.length + y.length ≤ lim then some (.str (x ++ y)) else none
  | .sub, .int i, .int j => some (.int (i - j))
  | .sub, .bool a, .bool b => some (.int (b2i a - b2i b))
  | .mul, .int i, .int j => if mulOk i j then some (.int (i * j)) else none
  | .mul, .list xs, .int n => if xs.length * n.toNat ≤ lim ∧ -lim ≤ n ∧ n ≤ lim then some (.list (List.replicate n.toNat xs).flatten) else none
  | .mul, .tuple xs, .int n => if xs ≠ [] ∧ 2 ≤ n ∧ n ≤ 1000 ∧ xs.length ≤ 1000 then some (.tuple (List.replicate n.toNat xs).flatten) else none
  | .fdiv, .int i, .int j => if divOk j then some (.int (i.fdiv j)) else none
  | .mod, .int i, .int j => if 0 < j then some (.int (i % j)) else none
  | .pow, .int i, .int j => if 0 ≤ j ∧ j ≤ 1000 ∧ i.natAbs < 2 ^ 64 then some (.int (i ^ j.toNat)) else none
  | .shl, .int i, .int j => if 0 ≤ j ∧ j ≤ 100000 ∧ i.natAbs < 2 ^ 64 then some (.int (i * 2 ^ j.toNat)) else none
  | .band, .int i, .int j => if 0 ≤ i ∧ j = 1 then some (.int (i % 2)) else none
  | _, _, _ => none
def asInts : List D → Option (List Int)
  | [] => some []
  | .int i :: r => (asInts r).map (i :: ·)
  | _ :: _ => none
def isConst : D → Bool
  | .none => true
  | .bool _ => true
  | _ => false
def isSame : D → D → Bool
  | .none, .none => true
  | .bool a, .bool b => a == b
  | _, _ => false
def cmpop : Cop → D → D → Option D
  | .eq, x, y => if SeqAt.shaped x = true ∧ SeqAt.shaped y = true then some (.bool (PyData.eqv x y)) else none
  | .ne, x, y => if SeqAt.shaped x = true ∧ SeqAt.shaped y = true then some (.bool (!PyData.eqv x y)) else none
  | .lt, .int i, .int j => some (.bool (decide (i < j)))
  | .le, .int i, .int j => some (.bool (decide (i ≤ j)))
  | .gt, .int i, .int j => some (.bool (decide (j < i)))
  | .ge, .int i, .int j => some (.bool (decide (j ≤ i)))
  | .lt, .tuple xs, .tuple ys => (asInts xs).bind fun ns => (asInts ys).bind fun ms => some (.bool (HT.lexLt ns ms))
  | .is, x, y => if isConst y then some (.bool (isSame x y)) else none
  | .isnot, x, y => if isConst y then some (.bool (!isSame x y)) else none
  | .inn, x, .list ys => if SeqAt.shaped x = true ∧ SeqAt.shaped (.list ys) = true then some (.bool (ys.any fun y => PyData.eqv y x)) else none
  | .notin, x, .list ys => if SeqAt.shaped x = true ∧ SeqAt.shaped (.list ys) = true then some (.bool (!ys.any fun y => PyData.eqv y x)) else none
  | _, _, _ => none
/-- the place that an index means -/
def ixD (xs : List D) (i : Int) : Option D := L2.atI xs i
def getD (a i : D) : Option D :=
  match a, i with
  | .tuple xs, .int i => ixD xs i
  | .list xs, .int i => ixD xs i
  | .dict [(.none, .list xs)], .int i => ixD xs i
  | _, _ => none
def cut (xs : List D) (lo hi : Option Int) : List D :=
  (xs.drop (HT.sIx xs.length 0 lo)).take (HT.sIx xs.length xs.length hi - HT.sIx xs.length 0 lo)
def cutD (a : D) (lo hi : Option Int) : Option D :=
  match a with
  | .tuple xs => some (.tuple (cut xs lo hi))
  | .list xs => some (.list (cut xs lo hi))
  | _ => none
def isiD : D → Ty → Bool
  | .int _, .int => true
  | .bool _, .int => true
  | .bool _, .bool => true
  | .str _, .str => true
  | .tuple _, .tuple => true
  | .list _, .list => true
  | _, _ => false
def asBools : List D → Option (List Bool)
  | [] => some []
  | .bool i :: r => (asBools r).map (i :: ·)
  | _ :: _ => none
def bltop : Blt → List D → Option D
  | .len, [.tuple xs] => some (.int xs.length)
  | .len, [.list xs] => some (.int xs.length)
  | .len, [.dict [(.none, .list xs)]] => some (.int xs.length)
  | .int, [.int i] => some (.int i)
  | .int, [.bool b] => some (.int (b2i b))
  | .abs, [.int i] => some (.int (i.natAbs : Int))
  | .gcd, [.int i, .int j] => some (.int (Int.gcd i j : Int))
  | .sum, [.list xs] => (asInts xs).map fun ns => .int ns.sum
  | .all, [.list xs] => (asBools xs).map fun ns => .bool (ns.all id)
  | .any, [.list xs] => (asBools xs).map fun ns => .bool (ns.any id)
  | .list, [.list xs] => some (.list xs)
  | .list, [.tuple xs] => some (.list xs)
  | .tuple, [.list xs] => some (.tuple xs)
  | .tuple, [.tuple xs] => some (.tuple xs)
  | .min, [.int i, .int j] => some (.int (if j < i then j else i))
  | .max, [.int i, .int j] => some (.int (if j > i then j else i))
  | _, _ => none
def rangeD (a : Int) (n : Nat) : List D := (List.range n).map fun (k : Nat) => .int (a + k)
def itemsOf : Src → List D → Option (List D)
  | .it, [.tuple xs] => some xs
  | .it, [.list xs] => some xs
  | .rng, [.int n] => if n ≤ lim ∧ -lim ≤ n then some (rangeD 0 n.toNat) else none
  | .rng, [.int a, .int b] => if a ≤ lim ∧ -lim ≤ a ∧ b ≤ lim ∧ -lim ≤ b then some (rangeD a (b - a).toNat) else none
  | .zip, [.tuple xs, .tuple ys] => some (xs.zipWith (fun x y => .tuple [x, y]) ys)


  | .zip, [.list xs, .list ys] => some (xs.zipWith (fun x y => .tuple [x, y]) ys)
  | _, _ => none
mutual
def pureD : D → Bool
  | .list _ | .dict _ => false
  | .tuple xs => pureAll xs
  | _ => true
def pureAll : List D → Bool
  | [] => true
  | x :: xs => pureD x && pureAll xs
end

mutual
def bindT : Tg → D → Sl → Option Sl
  | .nm i, d, σ => some (sset σ i (some d))
  | .tp ts, d, σ => match d with
    | .tuple xs => bindTs ts xs σ
    | _ => none
def bindTs : Tgs → List D → Sl → Option Sl
  | .nil, [], σ => some σ
  | .cons t ts, x :: xs, σ => (bindT t x σ).bind fun σ' => bindTs ts xs σ'
  | _, _, _ => none
end
mutual
def tgOwn : Tg → List Nat
  | .nm i => [i]
  | .tp ts => tgsOwn ts
def tgsOwn : Tgs → List Nat
  | .nil => []
  | .cons t ts => tgOwn t ++ tgsOwn ts
end
def tst : Option D → Option Bool
  | some (.bool b) => some b
  | _ => none
def compGo (f : D → Option (Option D)) : List D → Option (List D)
  | [] => some []
  | d :: ds => (f d).bind fun o => (compGo f ds).bind fun r => some (match o with | some x => x :: r | none => r)
def mapGo (f : D → Option D) : List D → Option (List D)
  | [] => some []
  | d :: ds => (f d).bind fun x => (mapGo f ds).bind fun r => some (x :: r)
def catGo (f : D → Option (List D)) : List D → Option (List D)
  | [] => some []
  | d :: ds => (f d).bind fun x => (catGo f ds).bind fun r => some (x ++ r)
def isRo : D → Bool
  | .dict ((.none, _) :: _) => true
  | _ => false
def isNop : E → Bool
  | .nop => true
  | _ => false

def oc (n : Bool) (d : Option D) : Option Bool := if n then some true else tst d
def oi (n : Bool) (d : Option D) : Option (Option Int) := if n then some none else d.bind fun x => match x with | .int i => some (some i) | _ => none

section
variable (C : Nat → List D → Option D)
mutual
def evE : E → Sl → Option D
  | .var i, σ => sget σ i
  | .non, _ => some .none
  | .bl b, _ => some (.bool b)
  | .int i, _ => some (.int i)
  | .str x, _ => some (.str x)
  | .glob g, _ => some (glD g)
  | .tup es, σ => (evEs es σ).bind fun ds => some (.tuple ds)
  | .lst es, σ => (evEs es σ).bind fun ds => some (.list ds)
  | .edic _, _ => some (.dict [])
  | .bin o a b, σ => (evE a σ).bind fun x => (evE b σ).bind fun y => binop o x y
  | .neg a, σ => (evE a σ).bind fun x => match x with | .int i => some (.int (-i)) | _ => none
  | .not a, σ => (tst (evE a σ)).bind fun b => some (.bool (!b))
  | .and es, σ => evAnd es σ
  | .or es, σ => evOr es σ
  | .cmp o a b, σ => (evE a σ).bind fun x => (evE b σ).bind fun y => cmpop o x y
  | .chain o o' a b c, σ => (evE a σ).bind fun x => (evE b σ).bind fun y => (tst (cmpop o x y)).bind fun t =>
      if t then (evE c σ).bind fun z => (tst (cmpop o' y z)).bind fun t' => some (.bool t') else some (.bool false)
  | .ite c a b, σ => (tst (evE c σ)).bind fun t => if t then evE a σ else evE b σ
  | .ix a i, σ => (evE a σ).bind fun x => (evE i σ).bind fun y => getD x y
  | .sl a lo hi, σ => (evE a σ).bind fun x => (oi (isNop lo) (evE lo σ)).bind fun l => (oi (isNop hi) (evE hi σ)).bind fun h => cutD x l h
  | .rev a, σ => (evE a σ).bind fun x => match x with | .list xs => some (.list xs.reverse) | _ => none
  | .nop, _ => none
  | .call f w es, σ => (evEs es σ).bind fun ds => (C f ds).bind fun r => if w && !pureD r then none else some r
  | .blt b es, σ => (evEs es σ).bind fun ds => bltop b ds
  | .isi a t, σ => (evE a σ).bind fun x => if isRo x then none else some (.bool (isiD x t))
  | .mth _ _ _, _ => none
  | .comp elt tg s src c, σ => (evEs src σ).bind fun ds => (itemsOf s ds).bind fun its =>
      (compGo (fun d => (bindT tg d (swipe σ (tgOwn tg))).bind fun σ' => (oc (isNop c) (evE c σ')).bind fun t => if t then (evE elt σ').bind fun x => some (some x) else some none) its).bind fun r => some (.list r)
  | .comp2 elt t1 s1 src1 t2 s2 src2, σ => (evEs src1 σ).bind fun ds => (itemsOf s1 ds).bind fun its =>
      (catGo (fun d => (bindT t1 d (swipe σ (tgOwn t1 ++ tgOwn t2))).bind fun σ' => (evEs src2 σ').bind fun es => (itemsOf s2 es).bind fun jts =>
        mapGo (fun e => (bindT t2 e (swipe σ' (tgOwn t2))).bind fun σ'' => evE elt σ'') jts) its).bind fun r => if r.length ≤ lim then some (.list r) else none
def evEs : Es → Sl → Option (List D)
  | .nil, _ => some []
  | .cons e es, σ => (evE e σ).bind fun x => (evEs es σ).bind fun xs => some (x :: xs)
def evAnd : Es → Sl → Option D
  | .nil, _ => none
  | .cons e .nil, σ => evE e σ
  | .cons e (.cons e' es), σ => (tst (evE e σ)).bind fun b => if b then evAnd (.cons e' es) σ else some (.bool false)
def evOr : Es → Sl → Option D
  | .nil, _ => none
  | .cons e .nil, σ => evE e σ
  | .cons e (.cons e' es), σ => (tst (evE e σ)).bind fun b => if b then some (.bool true) else evOr (.cons e' es) σ
end

def augop (o : Bop) (x y : D) : Option D := match x, y with
  | .int i, .int j => binop o (.int i) (.int j)
  | _, _ => none
inductive Out where
  | nx (σ : Sl) | ret (d : D) | bk (σ : Sl) | ct (σ : Sl)
def forGo (f : D → Sl → Option Out) : List D → Sl → Option Out
  | [], σ => some (.nx σ)
  | d :: ds, σ => (f d σ).bind fun o => match o with
    | .nx σ' => forGo f ds σ'
    | .ct σ' => forGo f ds σ'
    | .bk σ' => some (.nx σ')
    | .ret d => some (.ret d)
def whlGo (c : Sl → Option Bool) (f : Sl → Option Out) : Nat → Sl → Option Out
  | 0, _ => none
  | n + 1, σ => (c σ).bind fun t => if t then (f σ).bind fun o => match o with
      | .nx σ' => whlGo c f n σ'
      | .ct σ' => whlGo c f n σ'
      | .bk σ' => some (.nx σ')
      | .ret d => some (.ret d)
    else some (.nx σ)
def appD (xs x : D) : Option D := match xs with
  | .list l => if l.length < lim then some (.list (l ++ [x])) else none
  | _ => none
def extD (xs ys : D) : Option D := match xs, ys with
  | .list l, .list r => if l.length + r.length ≤ lim then some (.list (l ++ r)) else none
  | _, _ => none
def popD (xs : D) : Option D := match xs with
  | .list l => if l = [] then none else some (.list l.dropLast)
  | _ => none
def setAt (xs i x : D) : Option D := match xs, i with
  | .list l, .int i => (L2.ixN l.length i).bind fun j => some (.list (l.set j x))
  | _, _ => none
def nxt (σ : Option Sl) : Option Out := σ.bind fun σ => some (.nx σ)
variable (N : Nat)
mutual
def evS : S → Sl → Option Out
  | .asg i e, σ => (evE C e σ).bind fun d => some (.nx (sset σ i (some d)))
  | .asgO i e, σ => (evE C e σ).bind fun d => match d with
    | .list l => some (.nx (sset σ i (some (.list l))))
    | _ => none
  | .newD i, σ => some (.nx (sset σ i (some (.dict []))))
  | .mov i j, σ => (sget σ j).bind fun d => some (.nx (sset (sset σ j none) i (some d)))
  | .unp t e, σ => (evE C e σ).bind fun d => nxt (bindT t d σ)
  | .par i j a b, σ => (evE C a σ).bind fun x => (evE C b σ).bind fun y => some (.nx (sset (sset σ i (some x)) j (some y)))
  | .aug i o e, σ => (sget σ i).bind fun x => (evE C e σ).bind fun y => (augop o x y).bind fun z => some (.nx (sset σ i (some z)))
  | .app i e, σ => (evE C e σ).bind fun x => (sget σ i).bind fun l => (appD l x).bind fun l' => some (.nx (sset σ i (some l')))
  | .appM i j, σ => (sget σ j).bind fun x => (sget σ i).bind fun l => (appD l x).bind fun l' => some (.nx (sset (sset σ j none) i (some l')))
  | .ext i e, σ => (evE C e σ).bind fun x => (sget σ i).bind fun l => (extD l x).bind fun l' => some (.nx (sset σ i (some l')))
  | .setL i k e, σ => (evE C e σ).bind fun x => (sget σ i).bind fun l => (evE C k σ).bind fun n => (setAt l n x).bind fun l' => some (.nx (sset σ i (some l')))
  | .setD _ _ _, _ => none
  | .pop i, σ => (sget σ i).bind fun l => (popD l).bind fun l' => some (.nx (sset σ i (some l')))
  | .callM f i es, σ => (evEs C es σ).bind fun ds => (sget σ i).bind fun d => (C f (d :: ds)).bind fun d' => some (.nx (sset σ i (some d')))
  | .ifs c a b, σ => (tst (evE C c σ)).bind fun t => if t then evSs a σ else evSs b σ
  | .whl c b, σ => whlGo (fun σ => tst (evE C c σ)) (fun σ => evSs b σ) N σ
  | .for_ t s src b, σ => (evEs C src σ).bind fun ds => (itemsOf s ds).bind fun its => forGo (fun d σ => (bindT t d σ).bind fun σ' => evSs b σ') its σ
  | .ret e, σ => (evE C e σ).bind fun d => some (.ret d)
  | .brk, σ => some (.bk σ)
  | .cnt, σ => some (.ct σ)
  | .pass, σ => some (.nx σ)
  | .stuck, _ => none
def evSs : Ss → Sl → Option Out
  | .nil, σ => some (.nx σ)
  | .cons s ss, σ => (evS s σ).bind fun o => match o with
    | .nx σ' => evSs ss σ'
    | o => some o
end
def runFn (fn : Fn) (args : List D) : Option D :=
  if args.length = fn.np then (evSs C N fn.body (args.map some ++ List.replicate (fn.ns - fn.np) none)).bind fun o => match o with
    | .ret d => if fn.mu then none else some d
    | .nx σ => if fn.mu then sget σ 0 else some .none
    | _ => none
  else none
end
def fnSem (T : Nat → Option Fn) (N : Nat) : Nat → Nat → List D → Option D
  | 0, _, _ => none
  | k + 1, f, ds => (T f).bind fun fn => runFn (fnSem T N k) N fn ds
/-! a try -/
example : evE (fun _ _ => none) (.bin .add (.var 1) (.int 3)) [none, some (.int 4)] = some (.int 7) := rfl
example (x : Int) (σ : Sl) : evE (fun _ _ => none) (.tup (.cons (.var 1) (.cons (.int 3) .nil))) [none, some (.int x)] = some (.tuple [.int x, .int 3]) := rfl
end Ev

set_option Elab.async false
set_option linter.all false
set_option maxRecDepth 100000
/-! EvB: how data lie in the abstract heap. -/
namespace Ev
open PySem PySem.Spec PyProof.Rows L2

abbrev AS := Addr → Prop
def aNo : AS := fun _ => False
def kD : Key → D
  | .inl i => .int i
  | .inr x => .str x
def kT (k : List Key) : D := .tuple (k.map kD)
/-- a list of ints that is only read: locked, or of the written part -/
def RoL (K : PySem.W.Frag) (H : Hp) (O : AS) (a : Addr) (xs : List V) : Prop :=
  (Rd H a (.lst xs) ∧ ¬ O a) ∨ ∃ (o : Obj) (its : Array Value) (n : Nat), K.lookup a = some o ∧ o.cls = .type "list" ∧ o.dict = none ∧ o.data = .seq its n ∧ its.size ≤ sizeLine ∧ Vals xs its.toList
theorem RoL.seq {K : PySem.W.Frag} {H : Hp} {O : AS} {a : Addr} {xs : List V} (h : RoL K H O a xs) : SqL K H a xs := h.imp And.left id
mutual
inductive R (K : PySem.W.Frag) (H : Hp) (O : AS) : V → D → Prop
  | non : R K H O .non .none
  | bl (b : Bool) : R K H O (.bl b) (.bool b)
  | int (i : Int) : R K H O (.int i) (.int i)
  | str (x : Str) : R K H O (.str x) (.str x)
  | tup {a : Addr} {vs : List V} {ds : List D} : SqT K H a vs → RA K H O vs ds → R K H O (.ref a) (.tuple ds)
  | lst {a : Addr} {vs : List V} {ds : List D} : H a = some (.lst vs) → ¬ O a → RA K H O vs ds → R K H O (.ref a) (.list ds)
  | ro {a : Addr} {ns : List Int} : RoL K H O a (ns.map V.int) → R K H O (.ref a) (.dict [(.none, .list (ns.map PyData.int))])
  | dK {a : Addr} {ks : List Key} {vs : List V} {ds : List D} : H a = some (.dK (ks.zip vs)) → ¬ O a → ks.length = vs.length → RA K H O vs ds → R K H O (.ref a) (.dict ((ks.map kD).zip ds))
  | dT {a : Addr} {ks : List (List Key)} {vs : List V} {ds : List D} : H a = some (.dT (ks.zip vs)) → ¬ O a → ks.length = vs.length → RA K H O vs ds → R K H O (.ref a) (.dict ((ks.map kT).zip ds))
inductive RA (K : PySem.W.Frag) (H : Hp) (O : AS) : List V → List D → Prop
  | nil : RA K H O [] []
  | cons {v : V} {vs : List V} {d : D} {ds : List D} : R K H O v d → RA K H O vs ds → RA K H O (v :: vs) (d :: ds)
end
/-- what is owned lies in lists and dicts that may be written -/
def OOk (H : Hp) (O : AS) : Prop := ∀ p, O p → (∃ xs, H p = some (.lst xs)) ∨ (∃ kvs, H p = some (.dK kvs)) ∨ (∃ kvs, H p = some (.dT kvs))
/-- all but what is owned is kept -/
def Keep (O : AS) (H H' : Hp) : Prop := ∀ b x, H b = some x → ¬ O b → H' b = some x
theorem Keep.of_same {O : AS} {H H' : Hp} (s : Same H H') : Keep O H H' := fun b x e _ => s b x e
theorem OOk.same {H H' : Hp} {O : AS} (o : OOk H O) (s : Same H H') : OOk H' O := fun p hp => by
  rcases o p hp with ⟨x, e⟩ | ⟨x, e⟩ | ⟨x, e⟩
  · exact .inl ⟨x, s _ _ e⟩
  · exact .inr (.inl ⟨x, s _ _ e⟩)
  · exact .inr (.inr ⟨x, s _ _ e⟩)
theorem OOk.some {H : Hp} {O : AS} (o : OOk H O) {p : Addr} (h : O p) : H p ≠ none := fun e => by
  rcases o p h with ⟨x, z⟩ | ⟨x, z⟩ | ⟨x, z⟩ <;> rw [e] at z <;> cases z
theorem OOk.fresh {H : Hp} {O : AS} (o : OOk H O) {p : Addr} (h : H p = none) : ¬ O p := fun z => o.some z h
theorem OOk.mono {H : Hp} {O O' : AS} (o : OOk H O) (h : ∀ p, O' p → O p) : OOk H O' := fun p hp => o p (h p hp)
theorem OOk.no (H : Hp) : OOk H aNo := fun _ h => h.elim
section
variable {K : PySem.W.Frag} {H H' : Hp} {O O' : AS}
theorem rd_tup (ok : OOk H O) (k : Keep O H H') {a : Addr} {vs : List V} (h : SqT K H a vs) : SqT K H' a vs := by
  rcases h with (h | ⟨o, h⟩) | h
  · refine .inl (.inl (k _ _ h fun z => ?_))
    rcases ok a z with ⟨x, e⟩ | ⟨x, e⟩ | ⟨x, e⟩ <;> rw [h] at e <;> cases e
  · refine .inl (.inr ⟨o, k _ _ h fun z => ?_⟩)
    rcases ok a z with ⟨x, e⟩ | ⟨x, e⟩ | ⟨x, e⟩ <;> rw [h] at e <;> cases e
  · exact .inr h
theorem rd_keep (k : Keep O H H') {a : Addr} {u : HO} (h : Rd H a u) (n : ¬ O a) : Rd H' a u := by
  rcases h with h | ⟨o, h⟩
  · exact .inl (k _ _ h n)
  · exact .inr ⟨o, k _ _ h n⟩
/-- from one state to a later one: what is owned by nobody is kept and stays so -/
def Evo (H : Hp) (O : AS) (H' : Hp) (O' : AS) : Prop := ∀ b x, H b = some x → ¬ O b → H' b = some x ∧ ¬ O' b
theorem Evo.refl (H : Hp) (O : AS) : Evo H O H O := fun _ _ e n => ⟨e, n⟩
theorem Evo.trans {H1 H2 H3 : Hp} {O1 O2 O3 : AS} (a : Evo H1 O1 H2 O2) (c : Evo H2 O2 H3 O3) : Evo H1 O1 H3 O3 := fun b x e n => let ⟨e1, n1⟩ := a b x e n; c b x e1 n1
theorem Evo.of_same {H H' : Hp} {O : AS} (s : Same H H') : Evo H O H' O := fun b x e n => ⟨s b x e, n⟩
theorem Evo.keep {H H' : Hp} {O O' : AS} (e : Evo H O H' O') : Keep O H H' := fun b x h n => (e b x h n).1
theorem rol_evo (k : Evo H O H' O') {a : Addr} {xs : List V} (h : RoL K H O a xs) : RoL K H' O' a xs := by
  rcases h with ⟨h | ⟨o, h⟩, n⟩ | h
  · exact .inl ⟨.inl (k _ _ h n).1, (k _ _ h n).2⟩
  · exact .inl ⟨.inr ⟨o, (k _ _ h n).1⟩, (k _ _ h n).2⟩
  · exact .inr h
mutual
/-- data stay where only owned things change -/
theorem R.evo (ok : OOk H O) (k : Evo H O H' O') : ∀ {v : V} {d : D}, R K H O v d → R K H' O' v d
  | _, _, .non => .non
  | _, _, .bl b => .bl b
  | _, _, .int i => .int i
  | _, _, .str x => .str x
  | _, _, .tup h r => .tup (rd_tup ok k.keep h) (RA.evo ok k r)
  | _, _, .lst h n r => .lst (k _ _ h n).1 (k _ _ h n).2 (RA.evo ok k r)
  | _, _, .ro h => .ro (rol_evo k h)
  | _, _, .dK h n e r => .dK (k _ _ h n).1 (k _ _ h n).2 e (RA.evo ok k r)
  | _, _, .dT h n e r => .dT (k _ _ h n).1 (k _ _ h n).2 e (RA.evo ok k r)
theorem RA.evo (ok : OOk H O) (k : Evo H O H' O') : ∀ {vs : List V} {ds : List D}, RA K H O vs ds → RA K H' O' vs ds
  | _, _, .nil => .nil
  | _, _, .cons h r => .cons (R.evo ok k h) (RA.evo ok k r)
end
theorem R.keep (ok : OOk H O) (k : Keep O H H') (m : ∀ p, O' p → O p) {v : V} {d : D} (r : R K H O v d) : R K H' O' v d := r.evo ok fun b x e n => ⟨k b x e n, fun z => n (m b z)⟩
theorem RA.keep (ok : OOk H O) (k : Keep O H H') (m : ∀ p, O' p → O p) {v : List V} {d : List D} (r : RA K H O v d) : RA K H' O' v d := r.evo ok fun b x e n => ⟨k b x e n, fun z => n (m b z)⟩
theorem R.same (ok : OOk H O) (s : Same H H') {v : V} {d : D} (r : R K H O v d) : R K H' O v d := r.keep ok (.of_same s) fun _ h => h
theorem RA.same (ok : OOk H O) (s : Same H H') {v : List V} {d : List D} (r : RA K H O v d) : RA K H' O v d := r.keep ok (.of_same s) fun _ h => h
theorem R.less (ok : OOk H O) (m : ∀ p, O' p → O p) {v : V} {d : D} (r : R K H O v d) : R K H O' v d := r.keep ok (.of_same (Same.refl H)) m
theorem RA.less (ok : OOk H O) (m : ∀ p, O' p → O p) {v : List V} {d : List D} (r : RA K H O v d) : RA K H O' v d := r.keep ok (.of_same (Same.refl H)) m
/-- a new owned place is nowhere in what stood before -/
theorem Evo.more {p : Addr} (n : H p = none) : Evo H O H (fun b => O b ∨ b = p) := fun b x e m => ⟨e, fun z => z.elim m fun q => by rw [q, n] at e; cases e⟩
theorem RA.length : ∀ {vs : List V} {ds : List D}, RA K H O vs ds → vs.length = ds.length
  | _, _, .nil => rfl
  | _, _, .cons _ r => congrArg (· + 1) (RA.length r)
theorem RA.get : ∀ {vs : List V} {ds : List D} {i : Nat} {d : D}, RA K H O vs ds → ds[i]? = some d → ∃ v, vs[i]? = some v ∧ R K H O v d
  | _, _, _, _, .nil, e => by simp at e
  | _, _, 0, _, .cons h _, e => by simp at e; subst e; exact ⟨_, rfl, h⟩
  | _, _, i + 1, _, .cons _ r, e => by
    obtain ⟨v, h1, h2⟩ := RA.get (i := i) r (by simpa using e)
    exact ⟨v, by simpa using h1, h2⟩
theorem RA.getV : ∀ {vs : List V} {ds : List D} {i : Nat} {v : V}, RA K H O vs ds → vs[i]? = some v → ∃ d, ds[i]? = some d ∧ R K H O v d
  | _, _, _, _, .nil, e => by simp at e
  | _, _, 0, _, .cons h _, e => by simp at e; subst e; exact ⟨_, rfl, h⟩
  | _, _, i + 1, _, .cons _ r, e => by
    obtain ⟨v, h1, h2⟩ := RA.getV (i := i) r (by simpa using e)
    exact ⟨v, by simpa using h1, h2⟩
theorem RA.append : ∀ {vs us : List V} {ds es : List D}, RA K H O vs ds → RA K H O us es → RA K H O (vs ++ us) (ds ++ es)
  | _, _, _, _, .nil, s => s
  | _, _, _, _, .cons h r, s => .cons h (RA.append r s)
theorem RA.take : ∀ {vs : List V} {ds : List D} (n : Nat), RA K H O vs ds → RA K H O (vs.take n) (ds.take n)
  | _, _, 0, _ => .nil
  | _, _, _ + 1, .nil => .nil
  | _, _, n + 1, .cons h r => .cons h (RA.take n r)
theorem RA.drop : ∀ {vs : List V} {ds : List D} (n : Nat), RA K H O vs ds → RA K H O (vs.drop n) (ds.drop n)
  | _, _, 0, r => r
  | _, _, _ + 1, .nil => .nil
  | _, _, n + 1, .cons _ r => RA.drop n r
theorem RA.set : ∀ {vs : List V} {ds : List D} {v : V} {d : D} (i : Nat), R K H O v d → RA K H O vs ds → RA K H O (vs.set i v) (ds.set i d)
  | _, _, _, _, _, _, .nil => .nil
  | _, _, _, _, 0, h, .cons _ r => .cons h r
  | _, _, _, _, i + 1, h, .cons g r => .cons g (RA.set i h r)
theorem RA.rep {vs : List V} {ds : List D} (h : RA K H O vs ds) : ∀ k : Nat, RA K H O (List.replicate k vs).flatten (List.replicate k ds).flatten
  | 0 => .nil
  | k + 1 => by
    rw [List.replicate_succ, List.replicate_succ, List.flatten_cons, List.flatten_cons]
    exact h.append (h.rep k)
theorem RA.snoc_rev {vs : List V} {ds : List D} (h : RA K H O vs ds) : RA K H O vs.reverse ds.reverse := by
  induction vs generalizing ds with
  | nil => cases h; exact .nil
  | cons v vs ih =>
    cases h with
    | cons h r =>
      rw [List.reverse_cons, List.reverse_cons]
      exact (ih r).append (.cons h .nil)
theorem RA.dropLast {vs : List V} {ds : List D} (h : RA K H O vs ds) : RA K H O vs.dropLast ds.dropLast := by
  rw [List.dropLast_eq_take, List.dropLast_eq_take, h.length]
  exact h.take _
theorem RA.nil_iff {vs : List V} {ds : List D} (h : RA K H O vs ds) : vs = [] ↔ ds = [] := by
  cases h <;> simp
theorem RA.ints : ∀ {vs : List V} {ds : List D} {ns : List Int}, RA K H O vs ds → asInts ds = some ns → vs = ns.map V.int
  | _, _, _, .nil, e => by cases e; rfl
  | _, _, ns, .cons (d := d) (ds := ds) h r, e => by
    cases d <;> simp only [asInts] at e <;> try cases e
    cases q : asInts ds with
    | none => rw [q] at e; cases e
    | some ms =>
      rw [q] at e
      cases e
      cases h
      rw [RA.ints r q]
      rfl
theorem RA.bools : ∀ {vs : List V} {ds : List D} {ns : List Bool}, RA K H O vs ds → asBools ds = some ns → vs = ns.map V.bl
  | _, _, _, .nil, e => by cases e; rfl
  | _, _, ns, .cons (d := d) (ds := ds) h r, e => by
    cases d <;> simp only [asBools] at e <;> try cases e
    cases q : asBools ds with
    | none => rw [q] at e; cases e
    | some ms =>
      rw [q] at e
      cases e
      cases h
      rw [RA.bools r q]
      rfl

/-- what a slot that is owned holds -/
def OwnC (K : PySem.W.Frag) (H : Hp) (O : AS) (p : Addr) : D → Prop
  | .list ds => ∃ vs, H p = some (.lst vs) ∧ RA K H O vs ds
  | .dict kvs => ∃ (ks : List (List Key)) (vs : List V) (ds : List D), H p = some (.dT (ks.zip vs)) ∧ ks.length = vs.length ∧ RA K H O vs ds ∧ kvs = (ks.map kT).zip ds
  | _ => False
/-- a value that may be an owned one itself -/
def WR (K : PySem.W.Frag) (H : Hp) (O : AS) (v : V) (d : D) : Prop := (∃ p, v = .ref p ∧ O p ∧ OwnC K H O p d) ∨ R K H O v d
theorem OwnC.same (ok : OOk H O) (s : Same H H') {p : Addr} {d : D} (h : OwnC K H O p d) : OwnC K H' O p d := by
  cases d with
  | list ds => obtain ⟨vs, e, r⟩ := h; exact ⟨vs, s _ _ e, r.same ok s⟩
  | dict kvs => obtain ⟨ks, vs, ds, e, l, r, z⟩ := h; exact ⟨ks, vs, ds, s _ _ e, l, r.same ok s, z⟩
  | _ => exact h.elim
theorem WR.same (ok : OOk H O) (s : Same H H') {v : V} {d : D} (h : WR K H O v d) : WR K H' O v d := by
  rcases h with ⟨p, e, o, c⟩ | h
  · exact .inl ⟨p, e, o, c.same ok s⟩
  · exact .inr (h.same ok s)
/-- owned by nobody any more -/
theorem OwnC.free (ok : OOk H O) (m : ∀ p, O' p → O p) {p : Addr} (n : ¬ O' p) {d : D} (h : OwnC K H O p d) : R K H O' (.ref p) d := by
  cases d with
  | list ds => obtain ⟨vs, e, r⟩ := h; exact .lst e n (r.less ok m)
  | dict kvs =>
    obtain ⟨ks, vs, ds, e, l, r, z⟩ := h
    subst z
    exact .dT e n l (r.less ok m)
  | _ => exact h.elim
theorem WR.free (ok : OOk H O) {v : V} {d : D} (h : WR K H O v d) : R K H aNo v d := by
  rcases h with ⟨p, e, o, c⟩ | h
  · subst e; exact c.free ok (fun _ z => z.elim) fun z => z
  · exact h.less ok fun _ z => z.elim
/-- a tuple -/
theorem WR.tup (ok : OOk H O) {v : V} {ds : List D} (h : WR K H O v (.tuple ds)) : ∃ a vs, v = .ref a ∧ SqT K H a vs ∧ RA K H O vs ds := by
  rcases h with ⟨p, e, o, c⟩ | h
  · exact c.elim
  · cases h with
    | tup h r => exact ⟨_, _, rfl, h, r⟩
/-- a list -/
theorem WR.lst {v : V} {ds : List D} (h : WR K H O v (.list ds)) : ∃ a vs, v = .ref a ∧ H a = some (.lst vs) ∧ RA K H O vs ds := by
  rcases h with ⟨p, e, o, vs, e2, r⟩ | h
  · exact ⟨p, vs, e, e2, r⟩
  · cases h with
    | lst h n r => exact ⟨_, _, rfl, h, r⟩
theorem WR.ro {v : V} {ds : List D} (h : WR K H O v (.dict [(.none, .list ds)])) : ∃ (a : Addr) (ns : List Int), v = .ref a ∧ SqL K H a (ns.map V.int) ∧ ds = ns.map PyData.int := by
  rcases h with ⟨p, e, o, ks, vs, es, e2, l, r, z⟩ | h
  · cases ks with
    | nil => cases z
    | cons k ks =>
      cases es with
      | nil => cases z
      | cons d es =>
        injection z with z1 z2
        injection z1 with z3 z4
        cases z3
  · generalize hd : PyData.dict [(.none, .list ds)] = d at h
    cases h with
    | ro h =>
      injection hd with hd
      injection hd with hd _
      injection hd with _ hd
      injection hd with hd
      exact ⟨_, _, rfl, h.seq, hd⟩
    | @dK a ks vs es h n e r =>
      injection hd with hd
      cases ks with
      | nil => cases hd
      | cons k ks =>
        cases es with
        | nil => cases hd
        | cons d es =>
          injection hd with z1 z2
          injection z1 with z3 z4
          cases k <;> cases z3
    | @dT a ks vs es h n e r =>
      injection hd with hd
      cases ks with
      | nil => cases hd
      | cons k ks =>
        cases es with
        | nil => cases hd
        | cons d es =>
          injection hd with z1 z2
          injection z1 with z3 z4
          cases z3
    | _ => cases hd
theorem WR.int {v : V} {i : Int} (h : WR K H O v (.int i)) : v = .int i := by
  rcases h with ⟨p, e, o, c⟩ | h
  · exact c.elim
  · cases h; rfl
theorem WR.bool {v : V} {b : Bool} (h : WR K H O v (.bool b)) : v = .bl b := by
  rcases h with ⟨p, e, o, c⟩ | h
  · exact c.elim
  · cases h; rfl
theorem WR.str {v : V} {b : Str} (h : WR K H O v (.str b)) : v = .str b := by
  rcases h with ⟨p, e, o, c⟩ | h
  · exact c.elim
  · cases h; rfl
theorem WR.non {v : V} (h : WR K H O v .none) : v = .non := by
  rcases h with ⟨p, e, o, c⟩ | h
  · exact c.elim
  · cases h; rfl
mutual
theorem R.dp : ∀ {v : V} {d : D}, R K H O v d → d.canLay0 = true → Dp K H v d
  | _, _, .non, _ => .non
  | _, _, .bl b, _ => .bl b
  | _, _, .int i, _ => .int i
  | _, _, .str x, _ => .str x
  | _, _, .tup h r, c => .tup h (RA.dp r (by simpa [PyData.canLay0] using c))
  | _, _, .lst h _ r, c => .lst (.inl (.inl h)) (RA.dp r (by simpa [PyData.canLay0] using c))
  | _, _, .ro _, c => by simp [PyData.canLay0] at c
  | _, _, .dK _ _ _ _, c => by simp [PyData.canLay0] at c
  | _, _, .dT _ _ _ _, c => by simp [PyData.canLay0] at c
theorem RA.dp : ∀ {vs : List V} {ds : List D}, RA K H O vs ds → PyData.canLayAll0 ds = true → DpAll K H vs ds
  | _, _, .nil, _ => .nil
  | _, _, .cons h r, c => by
    have c' := c
    simp only [PyData.canLayAll0, Bool.and_eq_true] at c'
    exact .cons (R.dp h c'.1) (RA.dp r c'.2)
end
theorem WR.dp (ok : OOk H O) {v : V} {d : D} (h : WR K H O v d) (c : SeqAt.shaped d = true) : Dp K H v d := (h.free ok).dp (SeqAt.canLay_of_shaped c)
mutual
/-- plain data are owned by nobody -/
theorem R.pure : ∀ {v : V} {d : D}, R K H O v d → pureD d = true → R K H O' v d
  | _, _, .non, _ => .non
  | _, _, .bl b, _ => .bl b
  | _, _, .int i, _ => .int i
  | _, _, .str x, _ => .str x
  | _, _, .tup h r, c => .tup h (RA.pure r (by simpa [pureD] using c))
  | _, _, .lst h _ r, c => by simp [pureD] at c
  | _, _, .ro _, c => by simp [pureD] at c
  | _, _, .dK _ _ _ _, c => by simp [pureD] at c
  | _, _, .dT _ _ _ _, c => by simp [pureD] at c
theorem RA.pure : ∀ {vs : List V} {ds : List D}, RA K H O vs ds → pureAll ds = true → RA K H O' vs ds
  | _, _, .nil, _ => .nil
  | _, _, .cons h r, c => by
    have c' := c
    simp only [pureAll, Bool.and_eq_true] at c'
    exact .cons (R.pure h c'.1) (RA.pure r c'.2)
end
end
theorem lim_line {n : Nat} (h : n ≤ lim) : n ≤ sizeLine := Nat.le_trans h (by rw [sizeLine_eq]; decide)
theorem lim_lt {n : Nat} (h : n < lim) : n < sizeLine := Nat.lt_of_lt_of_le h (by rw [sizeLine_eq]; decide)
end Ev

set_option Elab.async false
set_option linter.all false
set_option maxRecDepth 100000
/-! EvC: states, the checks of a term against a text, what a term's reading is. -/
namespace Ev
open PySem PySem.Spec PyProof.Rows L2

/-! ### slots -/
theorem sget_eq : ∀ (σ : Sl) (i : Nat), sget σ i = (σ[i]?).join
  | [], i => by cases i <;> rfl
  | o :: σ, 0 => by cases o <;> rfl
  | o :: σ, i + 1 => by
    show sget σ i = _
    rw [sget_eq σ i, List.getElem?_cons_succ]
theorem sset_eq : ∀ (σ : Sl) (i : Nat) (x : Option D), sset σ i x = σ.set i x
  | [], i, x => by cases i <;> rfl
  | o :: σ, 0, x => rfl
  | o :: σ, i + 1, x => by show o :: sset σ i x = _; rw [sset_eq σ i x]; rfl
theorem sset_len (σ : Sl) (i : Nat) (x : Option D) : (sset σ i x).length = σ.length := by rw [sset_eq, List.length_set]
theorem sget_lt {σ : Sl} {i : Nat} {d : D} (h : sget σ i = some d) : i < σ.length := by
  rw [sget_eq] at h
  cases e : σ[i]? with
  | none => rw [e] at h; cases h
  | some o => exact (List.getElem?_eq_some_iff.mp e).1
theorem sget_self {σ : Sl} {i : Nat} (h : i < σ.length) (x : Option D) : sget (sset σ i x) i = x := by
  rw [sget_eq, sset_eq, List.getElem?_set_self h]; rfl
theorem sget_ne {σ : Sl} {i j : Nat} (h : i ≠ j) (x : Option D) : sget (sset σ i x) j = sget σ j := by
  rw [sget_eq, sset_eq, List.getElem?_set_ne h, sget_eq]
theorem sget_out {σ : Sl} {i : Nat} (h : σ.length ≤ i) : sget σ i = none := by
  rw [sget_eq, List.getElem?_eq_none h]; rfl
theorem sget_none (σ : Sl) (i : Nat) : sget (sset σ i none) i = none := by
  by_cases h : i < σ.length
  · exact sget_self h none
  · exact sget_out (by rw [sset_len]; omega)
theorem sget_set {σ : Sl} {i j : Nat} {x : Option D} {d : D} (h : sget (sset σ i x) j = some d) : (i = j ∧ x = some d) ∨ (i ≠ j ∧ sget σ j = some d) := by
  by_cases e : i = j
  · subst e
    refine .inl ⟨rfl, ?_⟩
    have := sget_lt h
    rw [sset_len] at this
    rwa [sget_self this] at h
  · rw [sget_ne e] at h
    exact .inr ⟨e, h⟩
theorem swipe_get {σ : Sl} {i : Nat} {d : D} : ∀ {vs : List Nat}, sget (swipe σ vs) i = some d → sget σ i = some d ∧ i ∉ vs
  | [], h => ⟨h, by simp⟩
  | v :: vs, h => by
    rcases sget_set (show sget (sset (swipe σ vs) v none) i = some d from h) with ⟨_, z⟩ | ⟨n, z⟩
    · cases z
    · obtain ⟨h1, h2⟩ := swipe_get z
      exact ⟨h1, by simp only [List.mem_cons, not_or]; exact ⟨fun e => n e.symm, h2⟩⟩
theorem swipe_len (σ : Sl) : ∀ vs : List Nat, (swipe σ vs).length = σ.length
  | [] => rfl
  | v :: vs => by show (sset (swipe σ vs) v none).length = _; rw [sset_len, swipe_len σ vs]

/-- the slots' values and their data; ow: the slots that own their lists -/
structure SRel (K : PySem.W.Frag) (H : Hp) (O : AS) (ow : List Nat) (σV : L2.St) (σ : Sl) : Prop where
  len : σV.length = σ.length
  slot : ∀ i d, sget σ i = some d → ∃ v, σV[i]? = some (some v) ∧ (i ∉ ow → R K H O v d) ∧ (i ∈ ow → ∃ p, v = V.ref p ∧ O p ∧ OwnC K H O p d)
  apart : ∀ i j d d' p, i ≠ j → i ∈ ow → j ∈ ow → sget σ i = some d → sget σ j = some d' → σV[i]? = some (some (V.ref p)) → σV[j]? = some (some (V.ref p)) → False
section
variable {K : PySem.W.Frag} {H H' : Hp} {O O' : AS} {ow : List Nat} {σV : L2.St} {σ : Sl}
theorem SRel.same (ok : OOk H O) (r : SRel K H O ow σV σ) (s : Same H H') : SRel K H' O ow σV σ :=
  ⟨r.len, fun i d h => let ⟨v, e, a, b⟩ := r.slot i d h; ⟨v, e, fun n => (a n).same ok s, fun n => let ⟨p, x, y, z⟩ := b n; ⟨p, x, y, z.same ok s⟩⟩, r.apart⟩
theorem SRel.wr (r : SRel K H O ow σV σ) {i : Nat} {d : D} (h : sget σ i = some d) : ∃ v, σV[i]? = some (some v) ∧ WR K H O v d ∧ (i ∉ ow → R K H O v d) := by
  obtain ⟨v, e, a, b⟩ := r.slot i d h
  refine ⟨v, e, ?_, a⟩
  by_cases n : i ∈ ow
  · exact .inl (b n)
  · exact .inr (a n)
/-- a slot that owns nothing is stored -/
theorem SRel.set (r : SRel K H O ow σV σ) {i : Nat} {v : V} {d : D} (hi : i ∉ ow) (h : R K H O v d) : SRel K H O ow (σV.set i (some v)) (sset σ i (some d)) := by
  refine ⟨by rw [List.length_set, sset_len, r.len], fun j e he => ?_, fun j k d1 d2 p n h1 h2 g1 g2 e1 e2 => ?_⟩
  · rcases sget_set he with ⟨rfl, z⟩ | ⟨n, z⟩
    · cases z
      have hl := sget_lt he
      rw [sset_len, ← r.len] at hl
      exact ⟨v, List.getElem?_set_self hl, fun _ => h, fun q => absurd q hi⟩
    · obtain ⟨u, e1, q⟩ := r.slot j e z
      exact ⟨u, by rw [List.getElem?_set_ne n]; exact e1, q⟩
  · have n1 : i ≠ j := fun z => hi (z ▸ h1)
    have n2 : i ≠ k := fun z => hi (z ▸ h2)
    rw [sget_ne n1] at g1
    rw [sget_ne n2] at g2
    rw [List.getElem?_set_ne n1] at e1
    rw [List.getElem?_set_ne n2] at e2
    exact r.apart j k d1 d2 p n h1 h2 g1 g2 e1 e2
theorem SRel.wipe (r : SRel K H O ow σV σ) (vs : List Nat) : SRel K H O ow (L2.wipe σV vs) (swipe σ vs) := by
  have get : ∀ {i : Nat}, i ∉ vs → (L2.wipe σV vs)[i]? = σV[i]? := fun {i} n => L2.wipe_out n
  refine ⟨by rw [L2.wipe_length, swipe_len, r.len], fun i d h => ?_, fun j k d1 d2 p n h1 h2 g1 g2 e1 e2 => ?_⟩
  · obtain ⟨h1, h2⟩ := swipe_get h
    obtain ⟨v, e, q⟩ := r.slot i d h1
    exact ⟨v, by rw [get h2]; exact e, q⟩
  · obtain ⟨a1, b1⟩ := swipe_get g1
    obtain ⟨a2, b2⟩ := swipe_get g2
    rw [get b1] at e1
    rw [get b2] at e2
    exact r.apart j k d1 d2 p n h1 h2 a1 a2 e1 e2
/-- owned by nobody: at a def's end -/
theorem SRel.free (ok : OOk H O) (r : SRel K H O ow σV σ) (m : ∀ p, O' p → O p) (n : ∀ i p d, i ∈ ow → sget σ i = some d → σV[i]? = some (some (V.ref p)) → ¬ O' p) : SRel K H O' [] σV σ :=
  ⟨r.len, fun i d h => let ⟨v, e, a, b⟩ := r.slot i d h; ⟨v, e, fun _ => by
    by_cases q : i ∈ ow
    · obtain ⟨p, x, y, z⟩ := b q
      subst x
      exact z.free ok m (n i p d q h e)
    · exact (a q).less ok m, fun q => absurd q (by simp)⟩, fun i j _ _ _ _ q => absurd q (by simp)⟩
end

/-! ### checks -/
structure Lk where
  fn : List (Nat × Str)
  fr : List Nat
  mu : List Nat
  gl : List (Nat × Str)
  bl : List Str
  mf : List (Str × String)
mutual
def strong (ow : List Nat) : E → Bool
  | .var i => !ow.contains i
  | .ite _ a b => strong ow a && strong ow b
  | .and es => strongs ow es
  | .or es => strongs ow es
  | _ => true
def strongs (ow : List Nat) : Es → Bool
  | .nil => true
  | .cons e es => strong ow e && strongs ow es
end
mutual
theorem strong_nil : ∀ e : E, strong [] e = true
  | .var _ => rfl
  | .ite _ a b => by simp only [strong, strong_nil a, strong_nil b]; rfl
  | .and es => by simp only [strong]; exact strongs_nil es
  | .or es => by simp only [strong]; exact strongs_nil es
  | .non | .bl _ | .int _ | .str _ | .glob _ | .tup _ | .lst _ | .edic _ | .bin _ _ _ | .neg _ | .not _ | .cmp _ _ _ | .chain _ _ _ _ _ | .ix _ _ | .sl _ _ _ | .rev _ | .nop | .call _ _ _ | .blt _ _ | .isi _ _ | .mth _ _ _ | .comp _ _ _ _ _ | .comp2 _ _ _ _ _ _ _ => rfl
theorem strongs_nil : ∀ es : Es, strongs [] es = true
  | .nil => rfl
  | .cons e es => by simp only [strongs, strong_nil e, strongs_nil es]; rfl
end
def isFresh (fr : List Nat) : E → Bool
  | .lst _ => true
  | .edic _ => true
  | .bin _ _ _ => true
  | .sl _ _ _ => true
  | .rev _ => true
  | .comp _ _ _ _ _ => true
  | .comp2 _ _ _ _ _ _ _ => true
  | .call f _ _ => fr.contains f
  | .blt .list _ => true
  | .blt .sorted _ => true
  | .blt .dict _ => true
  | .ite _ a b => isFresh fr a && isFresh fr b
  | _ => false
def visC (sc : Scope) (x : Str) : Bool := match sc.names.lookup x with
  | some .local => true
  | some .cell => true
  | some .free => true
  | _ => false
def locC (sc : Scope) (x : Str) : Bool := match sc.names.lookup x with
  | some .local => true
  | some .cell => true
  | _ => false
def glbC (sc : Scope) (x : Str) : Bool := match sc.names.lookup x with
  | some .globalImplicit => true
  | _ => false
theorem visC_iff {sc : Scope} {x : Str} (h : visC sc x = true) : Vis sc x := by
  unfold visC at h
  unfold Vis
  split at h
  · exact .inl (by assumption)
  · exact .inr (.inl (by assumption))
  · exact .inr (.inr (by assumption))
  · cases h
theorem locC_iff {sc : Scope} {x : Str} (h : locC sc x = true) : L2.Loc sc x := by
  unfold locC at h
  unfold L2.Loc
  split at h
  · exact .inl (by assumption)
  · exact .inr (by assumption)
  · cases h
theorem glbC_iff {sc : Scope} {x : Str} (h : glbC sc x = true) : sc.names.lookup x = some .globalImplicit := by
  unfold glbC at h
  split at h
  · assumption
  · cases h
def noDbg (x : Str) : Bool := !(x == ("__debug__" : Str)) && !(x == ("__classdict__" : Str))
/-- an expression whose head is of the plain kind -/
def plainX : PySem.Expr → Bool
  | .Starred _ _ => false
  | .NamedExpr _ _ _ => false
  | .Set _ _ _ => false
  | .Slice _ _ _ _ => false
  | _ => true
def bopO : Bop → Operator
  | .add => .Add | .sub => .Sub | .mul => .Mult | .fdiv => .FloorDiv | .mod => .Mod | .pow => .Pow | .shl => .LShift | .band => .BitAnd
def copO : Cop → CmpOp
  | .eq => .Eq | .ne => .NotEq | .lt => .Lt | .le => .LtE | .gt => .Gt | .ge => .GtE | .is => .Is | .isnot => .IsNot | .inn => .In | .notin => .NotIn
def tyN : Ty → String
  | .int => "int" | .bool => "bool" | .str => "str" | .tuple => "tuple" | .list => "list"
def bltN : Blt → String
  | .len => "len" | .int => "int" | .abs => "abs" | .gcd => "math.gcd" | .comb => "math.comb" | .sum => "sum" | .all => "all" | .any => "any" | .list => "list" | .tuple => "tuple" | .sorted => "sorted" | .str => "str" | .min => "min" | .max => "max" | .dict => "dict"
/-- how a built-in is named in the text -/
def bltC (L : Lk) (sc : Scope) (b : Blt) (x : Str) : Bool := glbC sc x && noDbg x && (x != ("__name__" : Str)) && (match b with
  | .gcd => L.mf.contains (x, "math.gcd")
  | .comb => L.mf.contains (x, "math.comb")
  | b => x == (bltN b : Str) && L.bl.contains x)
mutual
def isTg (tsc : Scope) (N : List Str) (ow : List Nat) : Tg → PySem.Expr → Bool
  | .nm i, pe => match pe with
    | .Name x _ => N[i]? == some x && locC tsc x && !ow.contains i
    | _ => false
  | .tp ts, pe => match pe with
    | .Tuple es _ _ => isTgs tsc N ow ts es
    | _ => false
def isTgs (tsc : Scope) (N : List Str) (ow : List Nat) : Tgs → List PySem.Expr → Bool
  | .nil, es => match es with
    | [] => true
    | _ => false
  | .cons t ts, es => match es with
    | e :: es => isTg tsc N ow t e && isTgs tsc N ow ts es
    | _ => false
end
def isTupX : PySem.Expr → Bool
  | .Tuple _ _ _ => true
  | _ => false
def ownOf (N : List Str) (t : Tg) : List (Str × Nat) := (tgOwn t).map fun i => (N.getD i ⟨#[]⟩, i)
/-- what is walked: an expression, or range(..), zip(..), enumerate(..) -/
def srcX : Src → PySem.Expr → List PySem.Expr
  | .it, pe => [pe]
  | _, .Call (.Name _ _) xs [] _ => xs
  | _, _ => []
def srcOk (L : Lk) (sc : Scope) : Src → Bool → PySem.Expr → Bool
  | .it, _, _ => true
  | .rng, _, pe => match pe with
    | .Call (.Name x _) xs [] _ => x == ("range" : Str) && glbC sc x && L.bl.contains x && (xs.length == 1 || xs.length == 2)
    | _ => false
  | .zip, tup, pe => match pe with
    | .Call (.Name x _) xs [] _ => x == ("zip" : Str) && glbC sc x && L.bl.contains x && tup && xs.length == 2
    | _ => false
  | .enum, _, _ => false
section
variable (L : Lk) (N : List Str) (ow : List Nat)
mutual
def isE : Scope → E → PySem.Expr → Bool
  | sc, .var i, pe => match pe with
    | .Name x _ => N[i]? == some x && visC sc x && noDbg x
    | _ => false
  | _, .non, pe => match pe with
    | .Constant .none _ _ => true
    | _ => false
  | _, .bl b, pe => match pe with
    | .Constant (.bool c) _ _ => b == c
    | _ => false
  | _, .int i, pe => match pe with
    | .Constant (.int j) _ _ => i == j
    | _ => false
  | _, .str x, pe => match pe with
    | .Constant (.str y) _ _ => x == y
    | _ => false
  | sc, .glob g, pe => match pe with
    | .Name x _ => L.gl.contains (g, x) && glbC sc x && noDbg x
    | _ => false
  | sc, .tup es, pe => match pe with
    | .Tuple xs _ _ => strongs ow es && decide (xs.length ≤ lim) && isEs sc es xs
    | _ => false
  | sc, .lst es, pe => match pe with
    | .List xs _ => strongs ow es && decide (xs.length ≤ lim) && isEs sc es xs
    | _ => false
  | _, .edic t, pe => match pe with
    | .Dict [] [] _ => true
    | _ => false
  | sc, .bin o a b, pe => match pe with
    | .BinOp x q y _ => decide (q = bopO o) && isE sc a x && isE sc b y
    | _ => false
  | sc, .neg a, pe => match pe with
    | .UnaryOp .USub x _ => isE sc a x
    | _ => false
  | sc, .not a, pe => match pe with
    | .UnaryOp .Not x _ => isE sc a x
    | _ => false
  | sc, .and es, pe => match pe with
    | .BoolOp .And xs _ => isEs sc es xs
    | _ => false
  | sc, .or es, pe => match pe with
    | .BoolOp .Or xs _ => isEs sc es xs
    | _ => false
  | sc, .cmp o a b, pe => match pe with
    | .Compare x [q] [y] _ => decide (q = copO o) && isE sc a x && isE sc b y
    | _ => false
  | sc, .chain o o' a b c, pe => match pe with
    | .Compare x [q, q'] [y, z] _ => decide (q = copO o) && decide (q' = copO o') && isE sc a x && isE sc b y && isE sc c z
    | _ => false
  | sc, .ite c a b, pe => match pe with
    | .IfExp x y z _ => isE sc c x && isE sc a y && isE sc b z
    | _ => false
  | sc, .ix a i, pe => match pe with
    | .Subscript x y _ => isE sc a x && isE sc i y
    | _ => false
  | sc, .sl a lo hi, pe => match pe with
    | .Subscript x (.Slice l h none _) _ => isE sc a x && (match l with | some l => !isNop lo && isE sc lo l | none => isNop lo) && (match h with | some h => !isNop hi && isE sc hi h | none => isNop hi)
    | _ => false
  | sc, .rev a, pe => match pe with
    | .Subscript x (.Slice none none (some (.UnaryOp .USub (.Constant (.int 1) _ _) _)) _) _ => isE sc a x
    | _ => false
  | _, .nop, _ => false
  | sc, .call f w es, pe => match pe with
    | .Call (.Name x _) xs [] _ => L.fn.contains (f, x) && !L.mu.contains f && glbC sc x && noDbg x && (w || strongs ow es) && isEs sc es xs
    | _ => false
  | sc, .blt b es, pe => match pe with
    | .Call (.Name x _) (x0 :: xs) [] _ => bltC L sc b x && isEs sc es (x0 :: xs)
    | _ => false
  | sc, .isi a t, pe => match pe with
    | .Call (.Name x _) [y, .Name z _] [] _ => isE sc a y && x == ("isinstance" : Str) && glbC sc x && L.bl.contains x && z == (tyN t : Str) && glbC sc z && L.bl.contains z
    | _ => false
  | _, .mth _ _ _, _ => false
  | sc, .comp elt tg s src c, pe => match pe with
    | .ListComp y [⟨t, it, ifs, 0⟩] scope _ => isTg scope N ow tg t && (srcOk L sc s (isTupX t) it && isEs sc src (srcX s it)) && strong ow elt && isE (relS scope sc) elt y &&
        (match ifs with | [] => isNop c | [z] => !isNop c && isE (relS scope sc) c z | _ => false) && blkC N sc scope (ownOf N tg) && decide (tgOwn tg).Nodup
    | _ => false
  | sc, .comp2 elt t1 s1 src1 t2 s2 src2, pe => match pe with
    | .ListComp y [⟨g1, i1, [], 0⟩, ⟨g2, i2, [], 0⟩] scope _ => isTg scope N ow t1 g1 && (srcOk L sc s1 (isTupX g1) i1 && isEs sc src1 (srcX s1 i1)) && isTg scope N ow t2 g2 && (srcOk L (relS scope sc) s2 (isTupX g2) i2 && isEs (relS scope sc) src2 (srcX s2 i2)) && strongs ow src2 && strong ow elt && isE (relS scope sc) elt y &&
        blkC N sc scope (ownOf N t1 ++ ownOf N t2)
    | _ => false
termination_by structural _ e => e
def isEs : Scope → Es → List PySem.Expr → Bool
  | _, .nil, xs => match xs with
    | [] => true
    | _ => false
  | sc, .cons e es, xs => match xs with
    | x :: xs => plainX x && isE sc e x && isEs sc es xs
    | _ => false
termination_by structural _ es => es
end
/-- what is walked: an expression, or range(..), zip(..), enumerate(..) -/
def isSrc : Scope → Src → Es → Bool → PySem.Expr → Bool
  | sc, s, es, tup, pe => match s with
    | .it => match es with
      | .cons e .nil => plainX pe && isE L N ow sc e pe
      | _ => false
    | .rng => match pe with
      | .Call (.Name x _) xs [] _ => x == ("range" : Str) && glbC sc x && L.bl.contains x && (xs.length == 1 || xs.length == 2) && isEs L N ow sc es xs
      | _ => false
    | .zip => match pe with
      | .Call (.Name x _) xs [] _ => x == ("zip" : Str) && glbC sc x && L.bl.contains x && tup && xs.length == 2 && isEs L N ow sc es xs
      | _ => false
    | .enum => false
theorem src_of {sc : Scope} {s : Src} {es : Es} {tup : Bool} {pe : PySem.Expr} (h : (srcOk L sc s tup pe && isEs L N ow sc es (srcX s pe)) = true) : isSrc L N ow sc s es tup pe = true := by
  simp only [Bool.and_eq_true] at h
  obtain ⟨h1, h2⟩ := h
  unfold isSrc
  cases s with
  | it =>
    cases es with
    | nil => simp [srcX, isEs] at h2
    | cons e es =>
      cases es with
      | nil => simpa [srcX, isEs] using h2
      | cons => simp [srcX, isEs] at h2
  | rng =>
    simp only [srcOk] at h1
    split at h1
    · simp only [srcX] at h2
      simp only [Bool.and_eq_true] at h1 ⊢
      exact ⟨h1, h2⟩
    · cases h1
  | zip =>
    simp only [srcOk] at h1
    split at h1
    · simp only [srcX] at h2
      simp only [Bool.and_eq_true] at h1 ⊢
      exact ⟨h1, h2⟩
    · cases h1
  | enum => cases h1
end
end Ev

set_option Elab.async false
set_option linter.all false
set_option maxRecDepth 100000
set_option maxHeartbeats 1000000
/-! EvD: the operations on data are those of the layer. -/
namespace Ev
open PySem PySem.Spec PyProof.Rows L2

/-- a new list: it is nowhere but here -/
def Fr (K : PySem.W.Frag) (H : Hp) (O : AS) (v : V) (H' : Hp) : D → Prop
  | .list ds => ∃ p vs, v = V.ref p ∧ H p = none ∧ H' p = some (.lst vs) ∧ RA K H' (fun b => O b ∨ b = p) vs ds
  | _ => True
structure Post (K : PySem.W.Frag) (H : Hp) (O : AS) (st fr : Bool) (v : V) (d : D) (H' : Hp) : Prop where
  same : Same H H'
  wr : WR K H' O v d
  r : st = true → R K H' O v d
  f : fr = true → Fr K H O v H' d
section
variable {K : PySem.W.Frag} {H H' H1 : Hp} {O : AS} {st fr : Bool} {v : V} {d : D}
theorem Fr.back (s : Same H H1) (h : Fr K H1 O v H' d) : Fr K H O v H' d := by
  cases d <;> first | trivial | (obtain ⟨p, vs, e, n, x⟩ := h; exact ⟨p, vs, e, s.free n, x⟩)
theorem Post.back (s : Same H H1) (p : Post K H1 O st fr v d H') : Post K H O st fr v d H' := ⟨s.trans p.same, p.wr, p.r, fun h => (p.f h).back s⟩
theorem Post.weak {st' fr' : Bool} (p : Post K H O true true v d H') : Post K H O st' fr' v d H' := ⟨p.same, p.wr, fun _ => p.r rfl, fun _ => p.f rfl⟩
theorem Post.of (s : Same H H') (r : R K H' O v d) (f : fr = true → Fr K H O v H' d) : Post K H O st fr v d H' := ⟨s, .inr r, fun _ => r, f⟩
theorem same_upd {p : Addr} {o : HO} (h : H p = none) : Same H (upd H p o) := fun b x e => by rw [upd_ne (ne_of_none e h)]; exact e
/-- a new tuple -/
theorem Post.tup {p : Addr} {vs : List V} {ds : List D} (ok : OOk H O) (n : H p = none) (r : RA K H O vs ds) : Post K H O st fr (.ref p) (.tuple ds) (upd H p (.tup vs)) :=
  .of (same_upd n) (.tup (.inl (.inl upd_same)) (r.same ok (same_upd n))) fun _ => trivial
/-- a new list -/
theorem Post.lst {p : Addr} {vs : List V} {ds : List D} (ok : OOk H O) (n : H p = none) (r : RA K H O vs ds) : Post K H O st fr (.ref p) (.list ds) (upd H p (.lst vs)) :=
  .of (same_upd n) (.lst upd_same (ok.fresh n) (r.same ok (same_upd n))) fun _ => ⟨p, vs, rfl, n, upd_same, r.evo ok fun b x e nb => ⟨same_upd n b x e, fun z => z.elim nb fun z => by rw [z, n] at e; cases e⟩⟩
theorem Post.int (i : Int) : Post K H O st fr (.int i) (.int i) H := .of (Same.refl H) (.int i) fun _ => trivial
theorem Post.bl (i : Bool) : Post K H O st fr (.bl i) (.bool i) H := .of (Same.refl H) (.bl i) fun _ => trivial
theorem Post.str (i : Str) : Post K H O st fr (.str i) (.str i) H := .of (Same.refl H) (.str i) fun _ => trivial
end

theorem natAbs_log {i j : Int} (h : i.natAbs.log2 + j.natAbs.log2 < 100000000) : IntMulOk i j := by
  have b : ∀ x : Int, Builtin.Int.intBits x ≤ x.natAbs.log2 + 1 := fun x => by
    unfold Builtin.Int.intBits
    split <;> omega
  have h1 := b i
  have h2 := b j
  have e : bitsLine = 134217728 := by decide
  unfold IntMulOk
  intro z
  rw [Bool.and_eq_true] at z
  have z2 := z.2
  unfold Builtin.Int.intTooBig at z2
  have z3 := of_decide_eq_true z2
  rw [e] at z3
  omega
section
variable {X : Cx}
theorem op_mulE : OpR X (binaryOp .Mult) (rI IntMulOk fun i j => .int (i * j)) := opI fun _ _ _ _ _ _ _ hc q => mul_int q hc
def rBin (K : PySem.W.Frag) (o : Bop) : R2 := fun x y H Q => ∃ O dx dy d, OOk H O ∧ WR K H O x dx ∧ WR K H O y dy ∧ binop o dx dy = some d ∧ ∀ v H', Post K H O true true v d H' → Q v H'
theorem op_bin (o : Bop) : OpR X (binaryOp (bopO o)) (rBin X.K o) := by
  intro pins s σ H x y v u Q I rx ry h
  obtain ⟨O, dx, dy, d, ok, hx, hy, e, q⟩ := h
  unfold binop at e
  split at e
  · -- add int
    cases hx.int; cases hy.int; cases e
    exact op_add pins s σ H _ _ v u Q I rx ry ⟨_, _, rfl, rfl, q _ _ (.int _)⟩
  · -- add tuple
    obtain ⟨a, vs, rfl, h1, r1⟩ := hx.tup ok
    obtain ⟨b, us, rfl, h2, r2⟩ := hy.tup ok
    split at e
    · rename_i hl
      cases e
      refine op_catA pins s σ H _ _ v u Q I rx ry ⟨a, b, vs, us, rfl, rfl, h1, h2, lim_line (by rw [r1.length, r2.length]; exact hl), fun e1 => ?_, fun _ e2 => ?_, fun _ _ p n => q _ _ (.tup ok n (r1.append r2))⟩
      · subst e1
        cases r1
        exact q _ _ (.of (Same.refl H) (.tup h2 r2) fun _ => trivial)
      · subst e2
        cases r2
        rw [List.append_nil] at q
        exact q _ _ (.of (Same.refl H) (.tup h1 r1) fun _ => trivial)
    · cases e
  · -- add list
    obtain ⟨a, vs, rfl, h1, r1⟩ := hx.lst
    obtain ⟨b, us, rfl, h2, r2⟩ := hy.lst
    split at e
    · rename_i hl
      cases e
      exact op_cat pins s σ H _ _ v u Q I rx ry ⟨a, b, vs, us, rfl, rfl, h1, h2, lim_line (by rw [r1.length, r2.length]; exact hl), fun p n => q _ _ (.lst ok n (r1.append r2))⟩
    · cases e
  · -- add str
    cases hx.str; cases hy.str
    split at e
    · rename_i hl
      cases e
      exact op_add_str pins s σ H _ _ v u Q I rx ry ⟨_, _, rfl, rfl, lim_line hl, q _ _ (.str _)⟩
    · cases e
  · -- sub int
    cases hx.int; cases hy.int; cases e
    exact op_sub pins s σ H _ _ v u Q I rx ry ⟨_, _, rfl, rfl, q _ _ (.int _)⟩
  · -- sub bool
    cases hx.bool; cases hy.bool; cases e
    cases rx; cases ry
    exact sub_bool ⟨.int _, H, I.tok _, ⟨_, rfl⟩, q _ _ (.int _)⟩
  · -- mul int
    cases hx.int; cases hy.int
    split at e
    · rename_i hl
      cases e
      exact op_mulE pins s σ H _ _ v u Q I rx ry ⟨_, _, rfl, rfl, natAbs_log (of_decide_eq_true hl), q _ _ (.int _)⟩
    · cases e
  · -- mul list
    obtain ⟨a, vs, rfl, h1, r1⟩ := hx.lst
    cases hy.int
    split at e
    · rename_i hl
      cases e
      obtain ⟨l1, l2, l3⟩ := hl
      have l2' : (-1000000 : Int) ≤ _ := l2
      have l3' : _ ≤ (1000000 : Int) := l3
      exact op_rep pins s σ H _ _ v u Q I rx ry ⟨a, _, vs, rfl, rfl, h1, by omega, by omega, lim_line (by rw [r1.length]; exact l1), fun p n => q _ _ (.lst ok n (r1.rep _))⟩
    · cases e
  · -- mul tuple
    obtain ⟨a, vs, rfl, h1, r1⟩ := hx.tup ok
    cases hy.int
    split at e
    · rename_i hl
      cases e
      obtain ⟨l0, l1, l2, l3⟩ := hl
      exact op_repT pins s σ H _ _ v u Q I rx ry ⟨a, _, vs, rfl, rfl, h1, fun z => l0 (r1.nil_iff.mp z), l1, l2, by rw [r1.length]; exact l3, fun p n => q _ _ (.tup ok n (r1.rep _))⟩
    · cases e
  · -- fdiv
    cases hx.int; cases hy.int
    split at e
    · rename_i i j hl
      cases e
      unfold divOk at hl
      simp only [Bool.and_eq_true, decide_eq_true_eq] at hl
      obtain ⟨l0, l1⟩ := hl
      obtain ⟨t, rfl⟩ := rx
      obtain ⟨t', rfl⟩ := ry
      exact floordiv_int l0 ⟨.int _, H, I.tok _, ⟨_, rfl⟩, q _ _ (.int _)⟩ (.inl (PyProof.noPylong_of_log2 l1))
    · cases e
  · -- mod
    cases hx.int; cases hy.int
    split at e
    · rename_i hl
      cases e
      exact op_mod pins s σ H _ _ v u Q I rx ry ⟨_, _, rfl, rfl, hl, q _ _ (.int _)⟩
    · cases e
  · -- pow
    cases hx.int; cases hy.int
    split at e
    · rename_i hl
      cases e
      exact op_pow pins s σ H _ _ v u Q I rx ry ⟨_, _, rfl, rfl, ⟨hl.1, by omega, hl.2.2⟩, q _ _ (.int _)⟩
    · cases e
  · -- shl
    cases hx.int; cases hy.int
    split at e
    · rename_i hl
      cases e
      exact op_shl pins s σ H _ _ v u Q I rx ry ⟨_, _, rfl, rfl, ⟨hl.1, by omega, hl.2.2⟩, q _ _ (.int _)⟩
    · cases e
  · -- band
    cases hx.int; cases hy.int
    split at e
    · rename_i i j hl
      cases e
      obtain ⟨l1, rfl⟩ := hl
      obtain ⟨n, rfl⟩ : ∃ n : Nat, i = n := ⟨i.toNat, by omega⟩
      have e2 : (((n % 2 : Nat) : Int)) = (n : Int) % 2 := by omega
      exact op_odd pins s σ H _ _ v u Q I rx ry ⟨n, rfl, rfl, by rw [e2]; exact q _ _ (.int _)⟩
    · cases e
  · cases e

/-! ### comparisons -/
theorem is_const {O : AS} {H : Hp} {K : PySem.W.Frag} {x y : V} {dx dy : D} {u v : Value} (c : isConst dy = true) (hx : WR K H O x dx) (hy : WR K H O y dy) (rx : RelV x v) (ry : RelV y u) : PySem.plainIs v u = true ∧ (v == u) = isSame dx dy := by
  have hv : (∃ a, v = .ref a) ∨ (∃ i t, v = .int i t) ∨ (∃ i t, v = .str i t) ∨ (∃ b, v = .bool b ∧ dx = .bool b) ∨ (v = .none ∧ dx = .none) := by
    rcases hx with ⟨p, rfl, _⟩ | h
    · exact .inl ⟨p, rx⟩
    · cases h with
      | non => exact .inr (.inr (.inr (.inr ⟨rx, rfl⟩)))
      | bl b => exact .inr (.inr (.inr (.inl ⟨b, rx, rfl⟩)))
      | int i => obtain ⟨t, e⟩ := rx; exact .inr (.inl ⟨i, t, e⟩)
      | str i => obtain ⟨t, e⟩ := rx; exact .inr (.inr (.inl ⟨i, t, e⟩))
      | _ => exact .inl ⟨_, rx⟩
  have hd : (∀ b, v ≠ .bool b) → v ≠ .none → (∀ b, dx ≠ .bool b) ∧ dx ≠ .none := fun h1 h2 => by
    refine ⟨fun b z => ?_, fun z => ?_⟩
    · subst z; cases hx.bool; exact h1 b rx
    · subst z; cases hx.non; exact h2 rx
  cases dy with
  | none =>
    cases hy.non
    cases (show u = Value.none from ry)
    rcases hv with ⟨a, rfl⟩ | ⟨i, t, rfl⟩ | ⟨i, t, rfl⟩ | ⟨b, rfl, rfl⟩ | ⟨rfl, rfl⟩
    all_goals try exact ⟨rfl, rfl⟩
    all_goals
      obtain ⟨h1, h2⟩ := hd (fun _ z => nomatch z) (fun z => nomatch z)
      refine ⟨rfl, ?_⟩
      cases dx <;> first | rfl | exact absurd rfl h2
  | bool b0 =>
    cases hy.bool
    cases (show u = Value.bool b0 from ry)
    rcases hv with ⟨a, rfl⟩ | ⟨i, t, rfl⟩ | ⟨i, t, rfl⟩ | ⟨b, rfl, rfl⟩ | ⟨rfl, rfl⟩
    · obtain ⟨h1, h2⟩ := hd (fun _ z => nomatch z) (fun z => nomatch z)
      refine ⟨rfl, ?_⟩
      cases dx <;> first | rfl | exact absurd rfl (h1 _)
    · obtain ⟨h1, h2⟩ := hd (fun _ z => nomatch z) (fun z => nomatch z)
      refine ⟨rfl, ?_⟩
      cases dx <;> first | rfl | exact absurd rfl (h1 _)
    · obtain ⟨h1, h2⟩ := hd (fun _ z => nomatch z) (fun z => nomatch z)
      refine ⟨rfl, ?_⟩
      cases dx <;> first | rfl | exact absurd rfl (h1 _)
    · exact ⟨rfl, by cases b <;> cases b0 <;> rfl⟩
    · exact ⟨rfl, rfl⟩
  | _ => cases c
def rCop (K : PySem.W.Frag) (o : Cop) : R2 := fun x y H Q => ∃ O dx dy d, OOk H O ∧ WR K H O x dx ∧ WR K H O y dy ∧ cmpop o dx dy = some d ∧ ∃ b, d = .bool b ∧ Q (.bl b) H
theorem cmp_bool {o : Cop} {x y d : D} (h : cmpop o x y = some d) : ∃ b, d = .bool b := by
  unfold cmpop at h
  split at h
  all_goals first
    | (cases h; done)
    | (cases h; exact ⟨_, rfl⟩)
    | (split at h <;> first | (cases h; exact ⟨_, rfl⟩) | cases h)
    | (simp only [Option.bind_eq_some_iff] at h; obtain ⟨_, _, _, _, h⟩ := h; cases h; exact ⟨_, rfl⟩)
theorem op_cop (hu : X.A.units + 65 < cLine) (o : Cop) : OpR X (compareOp (copO o)) (rCop X.K o) := by
  intro pins s σ H x y v u Q I rx ry h
  obtain ⟨O, dx, dy, d, ok, hx, hy, e, b, rfl, q⟩ := h
  unfold cmpop at e
  split at e
  · -- eq
    split at e
    · rename_i hs
      cases e
      exact op_eqD (by omega) pins s σ H _ _ v u Q I rx ry ⟨_, _, hx.dp ok hs.1, hy.dp ok hs.2, hs.1, hs.2, q⟩
    · cases e
  · split at e
    · rename_i hs
      cases e
      exact op_neD (by omega) pins s σ H _ _ v u Q I rx ry ⟨_, _, hx.dp ok hs.1, hy.dp ok hs.2, hs.1, hs.2, q⟩
    · cases e
  · cases hx.int; cases hy.int; cases e
    exact op_lt pins s σ H _ _ v u Q I rx ry ⟨_, _, rfl, rfl, q⟩
  · cases hx.int; cases hy.int; cases e
    exact op_le pins s σ H _ _ v u Q I rx ry ⟨_, _, rfl, rfl, q⟩
  · cases hx.int; cases hy.int; cases e
    exact op_gt pins s σ H _ _ v u Q I rx ry ⟨_, _, rfl, rfl, q⟩
  · cases hx.int; cases hy.int; cases e
    exact op_ge pins s σ H _ _ v u Q I rx ry ⟨_, _, rfl, rfl, q⟩
  · -- tuples
    obtain ⟨a, vs, rfl, h1, r1⟩ := hx.tup ok
    obtain ⟨c, us, rfl, h2, r2⟩ := hy.tup ok
    simp only [Option.bind_eq_some_iff] at e
    obtain ⟨ns, e1, ms, e2, e⟩ := e
    cases e
    have w1 := r1.ints e1
    have w2 := r2.ints e2
    subst w1 w2
    exact op_ltT (by omega) pins s σ H _ _ v u Q I rx ry ⟨a, c, ns, ms, rfl, rfl, h1, h2, q⟩
  · split at e
    · rename_i hc
      cases e
      obtain ⟨p1, p2⟩ := is_const hc hx hy rx ry
      exact PySem.wpAny_is_plain p1 (by rw [p2]; exact ⟨.bl _, H, I, rfl, q⟩)
    · cases e
  · split at e
    · rename_i hc
      cases e
      obtain ⟨p1, p2⟩ := is_const hc hx hy rx ry
      exact PySem.wpAny_isNot_plain p1 (by rw [p2]; exact ⟨.bl _, H, I, rfl, q⟩)
    · cases e
  · split at e
    · rename_i hs
      cases e
      exact op_inD hu pins s σ H _ _ v u Q I rx ry ⟨_, _, hx.dp ok hs.1, hy.dp ok hs.2, hs.1, hs.2, q⟩
    · cases e
  · split at e
    · rename_i hs
      cases e
      exact op_notInD hu pins s σ H _ _ v u Q I rx ry ⟨_, _, hx.dp ok hs.1, hy.dp ok hs.2, hs.1, hs.2, q⟩
    · cases e
  · cases e

/-! ### an item, a slice -/
def rGet (K : PySem.W.Frag) : R2 := fun x y H Q => ∃ O dx dy d, OOk H O ∧ WR K H O x dx ∧ WR K H O y dy ∧ getD dx dy = some d ∧ ∀ v, R K H O v d → Q v H
theorem atI_RA {K : PySem.W.Frag} {H : Hp} {O : AS} {vs : List V} {ds : List D} {i : Int} {d : D} (r : RA K H O vs ds) (h : L2.atI ds i = some d) : ∃ v, L2.atI vs i = some v ∧ R K H O v d := by
  unfold L2.atI at h ⊢
  rw [r.length]
  cases e : L2.ixN ds.length i with
  | none => rw [e] at h; cases h
  | some j =>
    rw [e] at h
    obtain ⟨v, h1, h2⟩ := r.get (i := j) h
    exact ⟨v, h1, h2⟩
theorem ix_D : IxR X (rGet X.K) := by
  intro ve se pins s σ H x y v u Q I rx ry h hsub
  obtain ⟨O, dx, dy, d, ok, hx, hy, e, q⟩ := h
  unfold getD at e
  split at e
  · obtain ⟨a, vs, rfl, h1, r1⟩ := hx.tup ok
    cases hy.int
    obtain ⟨w', e1, r2⟩ := atI_RA r1 e
    exact ix_tup ve se pins s σ H _ _ v u Q I rx ry ⟨a, vs, _, w', rfl, rfl, h1, e1, q _ r2⟩ hsub
  · obtain ⟨a, vs, rfl, h1, r1⟩ := hx.lst
    cases hy.int
    obtain ⟨w', e1, r2⟩ := atI_RA r1 e
    exact ix_list ve se pins s σ H _ _ v u Q I rx ry ⟨a, vs, _, w', rfl, rfl, .inl (.inl h1), e1, q _ r2⟩ hsub
  · obtain ⟨a, ns, rfl, h1, rfl⟩ := hx.ro
    cases hy.int
    have r1 : RA X.K H O (ns.map V.int) (ns.map PyData.int) := by
      clear e h1 hx
      induction ns with
      | nil => exact .nil
      | cons n ns ih => exact .cons (.int n) ih
    obtain ⟨w', e1, r2⟩ := atI_RA r1 e
    exact ix_list ve se pins s σ H _ _ v u Q I rx ry ⟨a, _, _, w', rfl, rfl, h1, e1, q _ r2⟩ hsub
  · cases e
def rCut (K : PySem.W.Frag) : V → Option Int → Option Int → Hp → VK → Prop := fun x lo hi H Q => ∃ O dx d, OOk H O ∧ WR K H O x dx ∧ cutD dx lo hi = some d ∧ ∀ v H', Post K H O true true v d H' → Q v H'
theorem sl_D : SlR X (rCut X.K) := by
  intro pins s σ H x v vl vu lo hi sl Q I rx hs pl pu h
  obtain ⟨O, dx, d, ok, hx, e, q⟩ := h
  unfold cutD at e
  split at e
  · obtain ⟨a, vs, rfl, h1, r1⟩ := hx.tup ok
    cases e
    refine sl_tupA pins s σ H _ v vl vu lo hi sl Q I rx hs pl pu ⟨a, vs, rfl, h1, fun hw => ?_, fun _ p n => ?_⟩
    · rw [r1.length] at hw
      refine q _ _ (.of (Same.refl H) ?_ fun _ => trivial)
      unfold cut
      rw [hw.1, hw.2, List.drop_zero, Nat.sub_zero, List.take_length]
      exact .tup h1 r1
    · refine q _ _ (.tup ok n ?_)
      unfold cutV cut
      rw [r1.length]
      exact (r1.drop _).take _
  · obtain ⟨a, vs, rfl, h1, r1⟩ := hx.lst
    cases e
    refine sl_list pins s σ H _ v vl vu lo hi sl Q I rx hs pl pu ⟨a, vs, rfl, .inl (.inl h1), fun p n => q _ _ (.lst ok n ?_)⟩
    unfold cutV cut
    rw [r1.length]
    exact (r1.drop _).take _
  · cases e

/-! ### built-in calls -/
/-- many values -/
def WA (K : PySem.W.Frag) (H : Hp) (O : AS) : List V → List D → Prop := Paired (WR K H O)
theorem WA.same {K : PySem.W.Frag} {H H' : Hp} {O : AS} (ok : OOk H O) (s : Same H H') : ∀ {vs : List V} {ds : List D}, WA K H O vs ds → WA K H' O vs ds
  | _, _, .nil => .nil
  | _, _, .cons h r => .cons (h.same ok s) (WA.same ok s r)
theorem WA.one {K : PySem.W.Frag} {H : Hp} {O : AS} {vs : List V} {d : D} (h : WA K H O vs [d]) : ∃ v, vs = [v] ∧ WR K H O v d := by
  cases h with
  | cons h r => cases r; exact ⟨_, rfl, h⟩
theorem WA.two {K : PySem.W.Frag} {H : Hp} {O : AS} {vs : List V} {d e : D} (h : WA K H O vs [d, e]) : ∃ v u, vs = [v, u] ∧ WR K H O v d ∧ WR K H O u e := by
  cases h with
  | cons h r =>
    obtain ⟨u, rfl, g⟩ := WA.one r
    exact ⟨_, _, rfl, h, g⟩
def rBlt (K : PySem.W.Frag) (b : Blt) : List V → Hp → VK → Prop := fun vs H Q => ∃ O ds d, OOk H O ∧ WA K H O vs ds ∧ bltop b ds = some d ∧ ∀ v H', Post K H O true (isFresh [] (.blt b .nil)) v d H' → Q v H'
def bltV : Blt → Value
  | .int => .type "int" | .list => .type "list" | .tuple => .type "tuple" | .str => .type "str" | .dict => .type "dict"
  | b => .builtin (bltN b)
theorem call_blt (hc : X.calm = true) (b : Blt) : CallR X (bltV b) (rBlt X.K b) := by
  intro pins s σ H vs us Q I r h
  obtain ⟨O, ds, d, ok, hv, e, q⟩ := h
  unfold bltop at e
  split at e
  · obtain ⟨v, rfl, h1⟩ := hv.one
    obtain ⟨a, xs, rfl, h1, r1⟩ := h1.tup ok
    cases e
    exact call_len_seq pins s σ H _ us Q I r ⟨a, xs, rfl, .inr h1, by rw [r1.length]; exact q _ _ (.int _)⟩
  · obtain ⟨v, rfl, h1⟩ := hv.one
    obtain ⟨a, xs, rfl, h1, r1⟩ := h1.lst
    cases e
    exact call_len_seq pins s σ H _ us Q I r ⟨a, xs, rfl, .inl (.inl (.inl h1)), by rw [r1.length]; exact q _ _ (.int _)⟩
  · obtain ⟨v, rfl, h1⟩ := hv.one
    obtain ⟨a, ns, rfl, g1, e3⟩ := h1.ro
    subst e3
    cases e
    refine call_len_seq pins s σ H _ us Q I r ⟨a, _, rfl, .inl g1, ?_⟩
    have z := q _ _ (.int _)
    rw [List.length_map] at z ⊢
    exact z
  · obtain ⟨v, rfl, h1⟩ := hv.one
    cases h1.int
    cases e
    exact call_int1 pins s σ H _ us Q I r (.inl ⟨_, rfl, q _ _ (.int _)⟩)
  · obtain ⟨v, rfl, h1⟩ := hv.one
    cases h1.bool
    cases e
    exact call_int1 pins s σ H _ us Q I r (.inr ⟨_, rfl, q _ _ (.int _)⟩)
  · obtain ⟨v, rfl, h1⟩ := hv.one
    cases h1.int
    cases e
    rename_i i
    refine call_abs pins s σ H _ us Q I r ⟨i, rfl, ?_⟩
    have e2 : (if i < 0 then -i else i) = (i.natAbs : Int) := by split <;> omega
    rw [e2]
    exact q _ _ (.int _)
  · obtain ⟨v, u, rfl, h1, h2⟩ := hv.two
    cases h1.int; cases h2.int
    cases e
    exact cr_gcd pins s σ H _ us Q I r ⟨_, _, rfl, q _ _ (.int _)⟩
  · obtain ⟨v, rfl, h1⟩ := hv.one
    obtain ⟨a, xs, rfl, h1, r1⟩ := h1.lst
    simp only [Option.map_eq_some_iff] at e
    obtain ⟨ns, e1, e⟩ := e
    cases e
    have w := r1.ints e1
    subst w
    exact cr_sum hc pins s σ H _ us Q I r ⟨a, ns, rfl, .inl (.inl h1), q _ _ (.int _)⟩
  · obtain ⟨v, rfl, h1⟩ := hv.one
    obtain ⟨a, xs, rfl, h1, r1⟩ := h1.lst
    simp only [Option.map_eq_some_iff] at e
    obtain ⟨ns, e1, e⟩ := e
    cases e
    have w := r1.bools e1
    subst w
    exact cr_all hc pins s σ H _ us Q I r ⟨a, ns, rfl, .inl (.inl h1), q _ _ (.bl _)⟩
  · obtain ⟨v, rfl, h1⟩ := hv.one
    obtain ⟨a, xs, rfl, h1, r1⟩ := h1.lst
    simp only [Option.map_eq_some_iff] at e
    obtain ⟨ns, e1, e⟩ := e
    cases e
    have w := r1.bools e1
    subst w
    exact cr_any hc pins s σ H _ us Q I r ⟨a, ns, rfl, .inl (.inl h1), q _ _ (.bl _)⟩
  · obtain ⟨v, rfl, h1⟩ := hv.one
    obtain ⟨a, xs, rfl, h1, r1⟩ := h1.lst
    cases e
    exact call_list_of pins s σ H _ us Q I r ⟨a, xs, rfl, .inl (.inl (.inl h1)), fun p n => q _ _ (.lst ok n r1)⟩
  · obtain ⟨v, rfl, h1⟩ := hv.one
    obtain ⟨a, xs, rfl, h1, r1⟩ := h1.tup ok
    cases e
    exact call_list_of pins s σ H _ us Q I r ⟨a, xs, rfl, .inr h1, fun p n => q _ _ (.lst ok n r1)⟩
  · obtain ⟨v, rfl, h1⟩ := hv.one
    obtain ⟨a, xs, rfl, h1, r1⟩ := h1.lst
    cases e
    exact call_tuple_of pins s σ H _ us Q I r ⟨a, xs, rfl, .inl ⟨.inl (.inl h1), fun p n => q _ _ (.tup ok n r1)⟩⟩
  · obtain ⟨v, rfl, h1⟩ := hv.one
    obtain ⟨a, xs, rfl, h1, r1⟩ := h1.tup ok
    cases e
    exact call_tuple_of pins s σ H _ us Q I r ⟨a, xs, rfl, .inr ⟨h1, q _ _ (.of (Same.refl H) (.tup h1 r1) fun z => nomatch z)⟩⟩
  · obtain ⟨v, u, rfl, h1, h2⟩ := hv.two
    cases h1.int; cases h2.int
    cases e
    exact call_min2 hc pins s σ H _ us Q I r ⟨_, _, rfl, q _ _ (.int _)⟩
  · obtain ⟨v, u, rfl, h1, h2⟩ := hv.two
    cases h1.int; cases h2.int
    cases e
    exact call_max2 hc pins s σ H _ us Q I r ⟨_, _, rfl, q _ _ (.int _)⟩
  · cases e
end
end Ev

set_option Elab.async false
set_option linter.all false
set_option maxRecDepth 100000
set_option maxHeartbeats 1000000
/-! EvE: an expression's value is the small language's. -/
namespace Ev
open PySem PySem.Spec PyProof.Rows L2

/-- what a def is worth: by its data -/
def spF (K : PySem.W.Frag) (fn : Fn) (g : List D → Option D) : Sp := fun vs H Q _ =>
  if fn.mu = true then ∃ (p : Addr) (rest : List V) (d0 : D) (ds : List D) (r : D) (O : AS), vs = V.ref p :: rest ∧ OOk H O ∧ O p ∧ OwnC K H O p d0 ∧ RA K H O rest ds ∧ ds.length + 1 = fn.np ∧ g (d0 :: ds) = some r ∧
    ∀ H', Keep (fun b => b = p) H H' → OwnC K H' O p r → Q .non H'
  else ∃ (ds : List D) (r : D) (O : AS), OOk H O ∧ RA K H O vs ds ∧ ds.length = fn.np ∧ g ds = some r ∧ ∀ v H', Same H H' → R K H' O v r → (fn.fr = true → Fr K H O v H' r) → Q v H'

/-- where a term is read: the module's facts, the defs that may be called -/
structure Ctx (L : Lk) (T : Nat → Option Fn) (C : Nat → List D → Option D) (k : Nat) (X : Cx) : Prop where
  calm : X.calm = true
  nd : X.N.Nodup
  room : Room k X.A
  fns : ∀ f x, L.fn.contains (f, x) = true → ∃ fn a fd ps, T f = some fn ∧ X.mg x = some (Value.ref a) ∧ PySem.W.keepIn X.K (Value.ref a) = true ∧ Binds X.K fd ps [] ∧
    FnOk X.prog X.w X.K X.mg X.base CX0 k a fd ps (spF X.K fn (C f)) ∧ L.mu.contains f = fn.mu ∧ L.fr.contains f = fn.fr
  gls : ∀ g x, L.gl.contains (g, x) = true → ∃ v u, X.mg x = some u ∧ RelV v u ∧ ∀ H O, R X.K H O v (glD g)
  bls : ∀ x, L.bl.contains x = true → X.mg x = none
  mfs : ∀ x id, L.mf.contains (x, id) = true → X.mg x = some (Value.builtin id)
  np : ∀ f fn (ds : List D) (d : D), T f = some fn → ds.length ≠ fn.np → C f ds = some d → False
theorem Ctx.blk {L : Lk} {T : Nat → Option Fn} {C : Nat → List D → Option D} {k : Nat} {X : Cx} (c : Ctx L T C k X) (s : Shared) (H : Hp) (scope : Scope) (cenv : Env) (fp : List Addr) : Ctx L T C k (X.blk s H scope cenv fp) :=
  ⟨c.calm, c.nd, c.room, c.fns, c.gls, c.bls, c.mfs, c.np⟩
theorem Ctx.hu {L : Lk} {T : Nat → Option Fn} {C : Nat → List D → Option D} {k : Nat} {X : Cx} (c : Ctx L T C k X) : X.A.units + 65 < cLine := by have := c.room.un; omega

section
variable (K : PySem.W.Frag) (C : Nat → List D → Option D) (ow fr : List Nat)
def rdE (e : E) : TE := fun σV H Q => ∃ σ O d, SRel K H O ow σV σ ∧ OOk H O ∧ evE C e σ = some d ∧ ∀ v H', Post K H O (strong ow e) (isFresh fr e) v d H' → Q v H'
def rdT (e : E) : TT := fun σV H Q => ∃ σ O b, SRel K H O ow σV σ ∧ OOk H O ∧ evE C e σ = some (.bool b) ∧ ∀ H', Same H H' → Q b H'
def rdEs (es : Es) : TA := fun σV H Q => ∃ σ O ds, SRel K H O ow σV σ ∧ OOk H O ∧ evEs C es σ = some ds ∧ ∀ vs H', Same H H' → WA K H' O vs ds → (strongs ow es = true → RA K H' O vs ds) → Q vs H'
/-- a walk's items, while nothing that stood is written -/
def ItW (J : It) (H1 : Hp) (O : AS) (its : List D) : Prop := ∀ H2 O2, OOk H2 O2 → Same H1 H2 → (∀ b, H1 b ≠ none → O2 b → O b) → ∀ i, (i < its.length → J.go i H2) ∧ (its.length ≤ i → J.stop i H2) ∧ ∀ x H3 d, its[i]? = some d → J.yld i H2 x H3 → Same H2 H3 ∧ R K H3 O2 x d
/-- .. while only owned things are written -/
def ItS (J : It) (H1 : Hp) (O : AS) (its : List D) : Prop := ∀ H2 O2, OOk H2 O2 → Evo H1 O H2 O2 → ∀ i, (i < its.length → J.go i H2) ∧ (its.length ≤ i → J.stop i H2) ∧ ∀ x H3 d, its[i]? = some d → J.yld i H2 x H3 → Same H2 H3 ∧ R K H3 O2 x d
def rdI (s : Src) (es : Es) : TI := fun σV H Q => ∃ σ O ds its, SRel K H O ow σV σ ∧ OOk H O ∧ evEs C es σ = some ds ∧ itemsOf s ds = some its ∧
  ∀ J H', Same H H' → its.length ≤ sizeLine → ItW K J H' O its → (strongs ow es = true → ItS K J H' O its) → Q J H'
def rdG (t : Tg) : TG := fun v σV H Q => ∃ σ O d σ', SRel K H O ow σV σ ∧ OOk H O ∧ R K H O v d ∧ bindT t d σ = some σ' ∧ ∀ σV', SRel K H O ow σV' σ' → σV'.length = σV.length → (∀ i, i ∉ tgOwn t → σV'[i]? = σV[i]?) → Q σV' H
def rdGs (ts : Tgs) : TGs := fun vs σV H Q => ∃ σ O ds σ', SRel K H O ow σV σ ∧ OOk H O ∧ RA K H O vs ds ∧ bindTs ts ds σ = some σ' ∧ ∀ σV', SRel K H O ow σV' σ' → σV'.length = σV.length → (∀ i, i ∉ tgsOwn ts → σV'[i]? = σV[i]?) → Q σV' H
end

theorem _root_.L2.PE.imp {X : Cx} {e : Expr} {t t' : TE} (h : PE X e t) (i : ∀ σ H Q, t' σ H Q → t σ H Q) : PE X e t' := ⟨fun pins s σ H Q I q => h.run pins s σ H Q I (i σ H Q q)⟩
theorem _root_.L2.PT.imp {X : Cx} {e : Expr} {t t' : TT} (h : PT X e t) (i : ∀ σ H Q, t' σ H Q → t σ H Q) : PT X e t' := ⟨fun pins s σ H Q I q => h.run pins s σ H Q I (i σ H Q q)⟩
theorem _root_.L2.PW.imp {X : Cx} {e : Expr} {t t' : TT} (h : PW X e t) (i : ∀ σ H Q, t' σ H Q → t σ H Q) : PW X e t' := ⟨fun wh pins s σ H Q I q => h.run wh pins s σ H Q I (i σ H Q q)⟩
theorem _root_.L2.PA.imp {X : Cx} {e : List Expr} {t t' : TA} (h : PA X e t) (i : ∀ σ H Q, t' σ H Q → t σ H Q) : PA X e t' := ⟨fun pos pins s σ H Q I q => h.run pos pins s σ H Q I (i σ H Q q)⟩
theorem _root_.L2.PO.imp {X : Cx} {e : Option Expr} {t t' : TO} (h : PO X e t) (i : ∀ σ H Q, t' σ H Q → t σ H Q) : PO X e t' := ⟨fun pins s σ H Q I q => h.run pins s σ H Q I (i σ H Q q)⟩
theorem _root_.L2.PI.imp {X : Cx} {tg e : Expr} {t t' : TI} (h : PI X tg e t) (i : ∀ σ H Q, t' σ H Q → t σ H Q) : PI X tg e t' := ⟨fun pins s σ H Q I q => h.run pins s σ H Q I (i σ H Q q)⟩
theorem _root_.L2.PG.imp {X : Cx} {e : Expr} {t t' : TG} (h : PG X e t) (i : ∀ v σ H Q, t' v σ H Q → t v σ H Q) : PG X e t' := ⟨fun pins s σ H v u Q I r q => h.run pins s σ H v u Q I r (i v σ H Q q)⟩
theorem _root_.L2.PGs.imp {X : Cx} {e : List Expr} {t t' : TGs} (h : PGs X e t) (i : ∀ v σ H Q, t' v σ H Q → t v σ H Q) : PGs X e t' := ⟨fun pins s σ H v u Q I r q => h.run pins s σ H v u Q I r (i v σ H Q q)⟩

/-! ### the text's forms -/
theorem star_plain {e : PySem.Expr} (h : plainX e = true) (es : List PySem.Expr) (env : Env) : starEach (e :: es) env = (false, eval e env) :: starEach es env := by
  cases e <;> first | rfl | cases h
theorem star_any {L : Lk} {N : List Str} {ow : List Nat} {sc : Scope} (pos : Pos) (env : Env) : ∀ {es : Es} {xs : List PySem.Expr}, isEs L N ow sc es xs = true → (backTo pos (starEach xs env)).any (·.1) = false
  | .nil, [], _ => rfl
  | .nil, _ :: _, h => by simp [isEs] at h
  | .cons _ _, [], h => by simp [isEs] at h
  | .cons e es, x :: xs, h => by
    simp only [isEs, Bool.and_eq_true] at h
    rw [star_plain h.1.1]
    have ih := star_any pos env (es := es) (xs := xs) h.2
    show (false || (backTo pos (starEach xs env)).any (·.1)) = false
    rw [ih]; rfl
theorem isE_plain {L : Lk} {N : List Str} {ow : List Nat} {sc : Scope} {e : E} {pe : PySem.Expr} (h : isE L N ow sc e pe = true) : (∀ l u s p, pe ≠ .Slice l u s p) ∧ (∀ a b c, pe ≠ .Set a b c) := by
  constructor
  · intro l u s p z
    subst z
    cases e <;> simp [isE] at h
  · intro l u s z
    subst z
    cases e <;> simp [isE] at h
theorem mark_plain {op : CmpOp} {b : PySem.Expr} (h : ∀ x y z, b ≠ .Set x y z) : behindInMarks op b = false := by
  cases b <;> first | rfl | exact absurd rfl (h _ _ _)
theorem plainIx {b : PySem.Expr} (h : ∀ l u s p, b ≠ .Slice l u s p) : PlainIx b := by
  intro o i
  cases b <;> first | rfl | exact absurd rfl (h _ _ _ _)
theorem folded_plain {e : PySem.Expr} (h : ∀ x y z, e ≠ .Set x y z) (env : Env) : ∀ x, foldedSetIterable e env x = pure x := by
  intro x
  cases e <;> first | rfl | exact absurd rfl (h _ _ _)

section
variable {L : Lk} {T : Nat → Option Fn} {C : Nat → List D → Option D} {k : Nat} {X : Cx} {N : List Str} {ow : List Nat} {sc : Scope}
theorem s_var {i : Nat} {pe : PySem.Expr} (hN : X.N = N) (hs : X.env.scope = sc) (h : isE L N ow sc (.var i) pe = true) : PE X pe (rdE X.K C ow L.fr (.var i)) := by
  unfold isE at h
  split at h
  · simp only [Bool.and_eq_true, beq_iff_eq, noDbg, Bool.not_eq_true'] at h
    obtain ⟨⟨h1, h2⟩, h3, h4⟩ := h
    refine (pe_var (hN ▸ h1) (hs ▸ visC_iff h2) h3 h4).imp ?_
    rintro σV H Q ⟨σ, O, d, r, ok, e, q⟩
    obtain ⟨v, e1, w', g⟩ := r.wr e
    refine ⟨v, e1, q v H ⟨Same.refl H, w', fun z => g ?_, fun z => nomatch z⟩⟩
    simpa [strong] using z
  · cases h
theorem s_glob (c : Ctx L T C k X) {g : Nat} {pe : PySem.Expr} (hs : X.env.scope = sc) (h : isE L N ow sc (.glob g) pe = true) : PE X pe (rdE X.K C ow L.fr (.glob g)) := by
  unfold isE at h
  split at h
  · simp only [Bool.and_eq_true, noDbg, Bool.not_eq_true'] at h
    obtain ⟨⟨h1, h2⟩, h3, h4⟩ := h
    obtain ⟨v, u, e1, rv, rr⟩ := c.gls _ _ h1
    refine (pe_glob (show Gl X _ from by show X.env.scope.names.lookup _ = _; rw [hs]; exact glbC_iff h2) e1 rv h3).imp ?_
    rintro σV H Q ⟨σ, O, d, r, ok, e, q⟩
    cases e
    exact q v H (.of (Same.refl H) (rr H O) fun z => nomatch z)
  · cases h
theorem s_con {e : E} {pe : PySem.Expr} {v : V} {d : D} (hp : PE X pe (tC v)) (he : ∀ σ, evE C e σ = some d) (hr : ∀ H O, R X.K H O v d) (hf : isFresh L.fr e = false) : PE X pe (rdE X.K C ow L.fr e) := by
  refine hp.imp ?_
  rintro σV H Q ⟨σ, O, d', r, ok, e', q⟩
  rw [he] at e'
  cases e'
  exact q v H (.of (Same.refl H) (hr H O) fun z => by rw [hf] at z; cases z)
/-- two values, then an operation -/
theorem s_two {e a b : E} {x y pe : PySem.Expr} {r : R2} {op : D → D → Option D} (ha : PE X x (rdE X.K C ow L.fr a)) (hb : PE X y (rdE X.K C ow L.fr b)) (hp : PE X pe (tOp r (rdE X.K C ow L.fr a) (rdE X.K C ow L.fr b)))
    (he : ∀ σ d, evE C e σ = some d → ∃ dx dy, evE C a σ = some dx ∧ evE C b σ = some dy ∧ op dx dy = some d)
    (hr : ∀ (u v : V) (H : Hp) (O : AS) (dx dy d : D) (Q : VK), OOk H O → WR X.K H O u dx → WR X.K H O v dy → op dx dy = some d → (∀ z H', Post X.K H O (strong ow e) (isFresh L.fr e) z d H' → Q z H') → r u v H Q) : PE X pe (rdE X.K C ow L.fr e) := by
  refine hp.imp ?_
  rintro σV H Q ⟨σ, O, d, r, ok, ev, q⟩
  obtain ⟨dx, dy, e1, e2, e3⟩ := he σ d ev
  refine ⟨σ, O, dx, r, ok, e1, fun u H1 p1 => ⟨σ, O, dy, r.same ok p1.same, ok.same p1.same, e2, fun v H2 p2 => ?_⟩⟩
  exact hr u v H2 O dx dy d Q ((ok.same p1.same).same p2.same) (p1.wr.same (ok.same p1.same) p2.same) p2.wr e3 fun z H' pz => q z H' ((pz.back p2.same).back p1.same)
theorem bind2 {a b : Option D} {op : D → D → Option D} {d : D} (h : (a.bind fun x => b.bind fun y => op x y) = some d) : ∃ dx dy, a = some dx ∧ b = some dy ∧ op dx dy = some d := by
  simp only [Option.bind_eq_some_iff] at h
  obtain ⟨x, e1, y, e2, e3⟩ := h
  exact ⟨x, y, e1, e2, e3⟩
theorem tst_some {o : Option D} {b : Bool} (h : tst o = some b) : o = some (.bool b) := by
  unfold tst at h
  split at h
  · cases h; rfl
  · cases h

/-! ### targets -/
mutual
theorem bind_out : ∀ (t : Tg) (d : D) (σ σ' : Sl), bindT t d σ = some σ' → ∀ j, j ∉ tgOwn t → sget σ' j = sget σ j
  | .nm i, d, σ, σ', h, j, hj => by
    cases h
    exact sget_ne (fun z => hj (by rw [z]; show j ∈ [j]; simp)) _
  | .tp ts, d, σ, σ', h, j, hj => by
    unfold bindT at h
    split at h
    · exact binds_out ts _ σ σ' h j hj
    · cases h
theorem binds_out : ∀ (ts : Tgs) (ds : List D) (σ σ' : Sl), bindTs ts ds σ = some σ' → ∀ j, j ∉ tgsOwn ts → sget σ' j = sget σ j
  | .nil, [], σ, σ', h, j, hj => by cases h; rfl
  | .nil, _ :: _, σ, σ', h, j, hj => by cases h
  | .cons _ _, [], σ, σ', h, j, hj => by cases h
  | .cons t ts, d :: ds, σ, σ', h, j, hj => by
    have h : ((bindT t d σ).bind fun σ' => bindTs ts ds σ') = some σ' := h
    simp only [Option.bind_eq_some_iff] at h
    obtain ⟨σ1, e1, e2⟩ := h
    have hj' : j ∉ tgOwn t ∧ j ∉ tgsOwn ts := by
      have : j ∉ tgOwn t ++ tgsOwn ts := hj
      simpa using this
    rw [binds_out ts ds σ1 σ' e2 j hj'.2, bind_out t d σ σ1 e1 j hj'.1]
end
mutual
theorem tg_own {tsc : Scope} : ∀ (t : Tg) (pe : PySem.Expr), isTg tsc N ow t pe = true → ∀ j ∈ tgOwn t, j ∉ ow
  | .nm i, pe, h, j, hj => by
    unfold isTg at h
    split at h
    · simp only [Bool.and_eq_true, Bool.not_eq_true'] at h
      have : j = i := by simpa [tgOwn] using hj
      subst this
      simpa using h.2
    · cases h
  | .tp ts, pe, h, j, hj => by
    unfold isTg at h
    split at h
    · exact tgs_own ts _ h j hj
    · cases h
theorem tgs_own {tsc : Scope} : ∀ (ts : Tgs) (es : List PySem.Expr), isTgs tsc N ow ts es = true → ∀ j ∈ tgsOwn ts, j ∉ ow
  | .nil, _, _, j, hj => by simp [tgsOwn] at hj
  | .cons t ts, es, h, j, hj => by
    unfold isTgs at h
    split at h
    · simp only [Bool.and_eq_true] at h
      have hj' : j ∈ tgOwn t ∨ j ∈ tgsOwn ts := by
        have : j ∈ tgOwn t ++ tgsOwn ts := hj
        simpa using this
      rcases hj' with z | z
      · exact tg_own t _ h.1 j z
      · exact tgs_own ts _ h.2 j z
    · cases h
end

theorem loc_blk {scope sc : Scope} {x : Str} (h : locC scope x = true) : L2.Loc (relS scope sc) x ∧ ((scope.names.lookup x == some .cell) = true ∨ (relS scope sc).names.lookup x = some .local) := by
  have h' := locC_iff h
  rcases h' with h' | h'
  · have z := lookup_relS_keep (sc := sc) (k := .local) (by decide) h'
    exact ⟨.inl z, .inr z⟩
  · have z := lookup_relS_keep (sc := sc) (k := .cell) (by decide) h'
    exact ⟨.inr z, .inl (by rw [h']; rfl)⟩
/-- the names that a target may store -/
def TgOk (X : Cx) (tsc : Scope) : Prop := ∀ x, locC tsc x = true → L2.Loc X.env.scope x ∧ (X.fn x = true ∨ X.env.scope.names.lookup x = some .local)
mutual
theorem s_tg (hc : X.calm = true) (hnd : X.N.Nodup) (hN : X.N = N) {tsc : Scope} (ht : TgOk X tsc) : ∀ (t : Tg) (pe : PySem.Expr), isTg tsc N ow t pe = true → PG X pe (rdG X.K ow t)
  | .nm i, pe, h => by
    unfold isTg at h
    split at h
    · simp only [Bool.and_eq_true, beq_iff_eq, Bool.not_eq_true'] at h
      obtain ⟨⟨h1, h2⟩, h3⟩ := h
      obtain ⟨g1, g2⟩ := ht _ h2
      refine (pg_name hnd (hN ▸ h1) g1 g2).imp ?_
      rintro v σV H Q ⟨σ, O, d, σ', r, ok, rv, e, q⟩
      cases e
      refine q _ (r.set (by simpa using h3) rv) (by rw [List.length_set]) fun j hj => ?_
      have hj' : j ≠ i := fun z => hj (by rw [z]; show i ∈ [i]; simp)
      rw [List.getElem?_set_ne (Ne.symm hj')]
    · cases h
  | .tp ts, pe, h => by
    unfold isTg at h
    split at h
    · refine (pg_tup (n := (assignEach _ X.env).length) hc (s_tgs hc hnd hN ht ts _ h).1 rfl (s_tgs hc hnd hN ht ts _ h).2).imp ?_
      rintro v σV H Q ⟨σ, O, d, σ', r, ok, rv, e, q⟩
      cases d with
      | tuple ds =>
        cases rv with
        | tup hq ra =>
          refine ⟨_, _, rfl, hq, ?_, σ, O, ds, σ', r, ok, ra, e, q⟩
          exact tgs_len e h ra
      | _ => cases e
    · cases h
theorem s_tgs (hc : X.calm = true) (hnd : X.N.Nodup) (hN : X.N = N) {tsc : Scope} (ht : TgOk X tsc) : ∀ (ts : Tgs) (es : List PySem.Expr), isTgs tsc N ow ts es = true → PGs X es (rdGs X.K ow ts) ∧ (assignEach es X.env).findIdx? (·.1) = none
  | .nil, es, h => by
    unfold isTgs at h
    split at h
    · refine ⟨pgs_nil.imp ?_, rfl⟩
      rintro vs σV H Q ⟨σ, O, ds, σ', r, ok, rv, e, q⟩
      cases ds with
      | nil => cases rv; cases e; exact ⟨rfl, q _ r rfl fun _ _ => rfl⟩
      | cons => cases e
    · cases h
  | .cons t ts, es, h => by
    unfold isTgs at h
    split at h
    · simp only [Bool.and_eq_true] at h
      have h1 := s_tg hc hnd hN ht t _ h.1
      have h2 := s_tgs hc hnd hN ht ts _ h.2
      have hst : ∀ (e : PySem.Expr) (es : List PySem.Expr), isTg tsc N ow t e = true → assignEach (e :: es) X.env = (false, assign e X.env) :: assignEach es X.env := fun e es z => by
        cases e <;> first | rfl | (cases t <;> simp [isTg] at z)
      refine ⟨(pgs_cons h1 h2.1 (by rw [hst _ _ h.1]; rfl)).imp ?_, ?_⟩
      · rintro vs σV H Q ⟨σ, O, ds, σ', r, ok, rv, e, q⟩
        cases ds with
        | nil => cases e
        | cons d ds =>
          cases rv with
          | cons rv rr =>
            have e' : ((bindT t d σ).bind fun σ' => bindTs ts ds σ') = some σ' := e
            simp only [Option.bind_eq_some_iff] at e'
            obtain ⟨σ1, e1, e2⟩ := e'
            refine ⟨_, _, rfl, σ, O, d, σ1, r, ok, rv, e1, fun σV1 r1 l1 k1 => ⟨σ1, O, ds, σ', r1, ok, rr, e2, fun σV2 r2 l2 k2 => q σV2 r2 (l2.trans l1) fun i hi => ?_⟩⟩
            have hi' : i ∉ tgOwn t ∧ i ∉ tgsOwn ts := by
              have : i ∉ tgOwn t ++ tgsOwn ts := hi
              simpa using this
            rw [k2 i hi'.2, k1 i hi'.1]
      · rw [hst _ _ h.1, List.findIdx?_cons]
        rw [h2.2]
        rfl
    · cases h
theorem tgs_len {K : PySem.W.Frag} {H : Hp} {O : AS} {tsc : Scope} {env : Env} : ∀ {ts : Tgs} {es : List PySem.Expr} {ds : List D} {vs : List V} {σ σ' : Sl}, bindTs ts ds σ = some σ' → isTgs tsc N ow ts es = true → RA K H O vs ds → vs.length = (assignEach es env).length
  | .nil, [], [], [], _, _, _, _, _ => rfl
  | .nil, [], _ :: _, _, _, _, e, _, _ => by cases e
  | .nil, [], [], _ :: _, _, _, _, _, r => by cases r
  | .nil, _ :: _, _, _, _, _, _, h, _ => by simp [isTgs] at h
  | .cons _ _, [], _, _, _, _, _, h, _ => by simp [isTgs] at h
  | .cons t ts, x :: es, [], _, _, _, e, _, _ => by cases e
  | .cons t ts, x :: es, d :: ds, [], _, _, _, _, r => by cases r
  | .cons t ts, x :: es, d :: ds, v :: vs, σ, σ', e, h, r => by
    have e' : ((bindT t d σ).bind fun σ' => bindTs ts ds σ') = some σ' := e
    simp only [Option.bind_eq_some_iff] at e'
    obtain ⟨σ1, e1, e2⟩ := e'
    simp only [isTgs, Bool.and_eq_true] at h
    cases r with
    | cons rv rr =>
      have ih := tgs_len (env := env) e2 h.2 rr
      have hst : assignEach (x :: es) env = (false, assign x env) :: assignEach es env := by
        cases x <;> first | rfl | (cases t <;> simp [isTg] at h)
      rw [hst]
      show vs.length + 1 = (assignEach es env).length + 1
      rw [ih]
end
end
end Ev

set_option Elab.async false
set_option linter.all false
set_option maxRecDepth 100000
set_option maxHeartbeats 2000000
/-! EvF: every expression of the checked form has the small language's value. -/
namespace Ev
open PySem PySem.Spec PyProof.Rows L2

def dTy : D → String
  | .none => "NoneType" | .bool _ => "bool" | .int _ => "int" | .str _ => "str" | .tuple _ => "tuple" | .list _ => "list" | .dict _ => "dict"
theorem ty_of {K : PySem.W.Frag} {H : Hp} {O : AS} {v : V} {d : D} (ok : OOk H O) (h : WR K H O v d) (nd : isRo d = false) : TyX K H v (.type (dTy d)) := by
  have h := h.free ok
  cases h with
  | non => exact .base .non
  | bl b => exact .base (.bl b)
  | int i => exact .base (.int i)
  | str x => exact .base (.str x)
  | tup hq _ =>
    rcases hq with (e | ⟨o, e⟩) | ⟨o, its, n, e, c, _⟩
    · exact .base (.tup e)
    · exact .fTuple e
    · exact .kTuple e c
  | lst e _ _ => exact .base (.lst e)
  | ro _ => cases nd
  | dK e _ _ _ => exact .base (.dK e)
  | dT e _ _ _ => exact .base (.dT e)
theorem kit_D (K : PySem.W.Frag) (d : D) (t : Ty) : PySem.W.kitOne K (.type (dTy d)) (.type (tyN t)) = some (isiD d t) := by
  cases d <;> cases t <;> (simp only [dTy, tyN, isiD]; exact kit_ty (by decide +kernel))
theorem boot_ty (t : Ty) : bootBuiltins (tyN t : Str) = some (.type (tyN t)) := by cases t <;> decide +kernel
theorem boot_blt (b : Blt) (h : b ≠ .gcd) (h' : b ≠ .comb) : bootBuiltins (bltN b : Str) = some (bltV b) := by
  cases b <;> first | exact absurd rfl h | exact absurd rfl h' | decide +kernel
theorem ty_name (t : Ty) : (tyN t : Str) ≠ "__name__" ∧ ((tyN t : Str) == ("__debug__" : Str)) = false := by cases t <;> decide +kernel

section
variable {L : Lk} {T : Nat → Option Fn} {C : Nat → List D → Option D} {k : Nat} {N : List Str} {ow : List Nat}
theorem evEs_len {sc : Scope} : ∀ {es : Es} {xs : List PySem.Expr} {σ : Sl} {ds : List D}, isEs L N ow sc es xs = true → evEs C es σ = some ds → ds.length = xs.length
  | .nil, [], _, _, _, e => by cases e; rfl
  | .nil, _ :: _, _, _, h, _ => by simp [isEs] at h
  | .cons _ _, [], _, _, h, _ => by simp [isEs] at h
  | .cons x es, y :: xs, σ, ds, h, e => by
    simp only [isEs, Bool.and_eq_true] at h
    simp only [evEs, Option.bind_eq_some_iff] at e
    obtain ⟨d, e1, r, e2, e3⟩ := e
    cases e3
    have ih := evEs_len h.2 e2
    simp [ih]
/-! ### walks -/
section
variable {K : PySem.W.Frag} {H : Hp} {O : AS}
theorem evo_of {H2 : Hp} {O2 : AS} (s : Same H H2) (m : ∀ b, H b ≠ none → O2 b → O b) : Evo H O H2 O2 := fun b x e n => ⟨s b x e, fun z => n (m b (by rw [e]; simp) z)⟩
theorem itw_tup {a : Addr} {vs : List V} {ds : List D} (ok : OOk H O) (h : SqT K H a vs) (r : RA K H O vs ds) : ItS K (Itt K a) H O ds := by
  intro H2 O2 ok2 s i
  have h2 := rd_tup ok s.keep h
  refine ⟨fun hi => ?_, fun hi => ⟨vs, h2, by rw [r.length]; exact hi⟩, fun x H3 d hd hy => ?_⟩
  · have hv : i < vs.length := by rw [r.length]; exact hi
    exact ⟨vs, vs[i], h2, by simp [hv]⟩
  · obtain ⟨rfl, hx⟩ := hy
    obtain ⟨v, e1, e2⟩ := r.get hd
    have := hx vs h2
    rw [e1] at this
    cases this
    exact ⟨Same.refl _, e2.evo ok s⟩
theorem itw_lst {a : Addr} {vs : List V} {ds : List D} (ok : OOk H O) (h : H a = some (.lst vs)) (r : RA K H O vs ds) : ItW K (Itl K a) H O ds := by
  intro H2 O2 ok2 s m i
  have h2 : SqL K H2 a vs := .inl (.inl (s _ _ h))
  refine ⟨fun hi => ?_, fun hi => ⟨vs, h2, by rw [r.length]; exact hi⟩, fun x H3 d hd hy => ?_⟩
  · have hv : i < vs.length := by rw [r.length]; exact hi
    exact ⟨vs, vs[i], h2, by simp [hv]⟩
  · obtain ⟨rfl, hx⟩ := hy
    obtain ⟨v, e1, e2⟩ := r.get hd
    have := hx vs h2
    rw [e1] at this
    cases this
    exact ⟨Same.refl _, e2.evo ok (evo_of s m)⟩
theorem its_lst {a : Addr} {vs : List V} {ds : List D} (ok : OOk H O) (h : H a = some (.lst vs)) (n : ¬ O a) (r : RA K H O vs ds) : ItS K (Itl K a) H O ds := by
  intro H2 O2 ok2 s i
  have h2 : SqL K H2 a vs := .inl (.inl (s _ _ h n).1)
  refine ⟨fun hi => ?_, fun hi => ⟨vs, h2, by rw [r.length]; exact hi⟩, fun x H3 d hd hy => ?_⟩
  · have hv : i < vs.length := by rw [r.length]; exact hi
    exact ⟨vs, vs[i], h2, by simp [hv]⟩
  · obtain ⟨rfl, hx⟩ := hy
    obtain ⟨v, e1, e2⟩ := r.get hd
    have := hx vs h2
    rw [e1] at this
    cases this
    exact ⟨Same.refl _, e2.evo ok s⟩
theorem ItS.w {J : It} {its : List D} (h : ItS K J H O its) : ItW K J H O its := fun H2 O2 ok2 s m => h H2 O2 ok2 (evo_of s m)
theorem range_len (a : Int) (n : Nat) : (rangeD a n).length = n := by unfold rangeD; simp
theorem range_get {a : Int} {n i : Nat} {d : D} (h : (rangeD a n)[i]? = some d) : i < n ∧ d = .int (a + i) := by
  unfold rangeD at h
  rw [List.getElem?_map] at h
  by_cases hi : i < n
  · rw [List.getElem?_range hi] at h
    cases h
    exact ⟨hi, rfl⟩
  · rw [List.getElem?_eq_none (by simpa using hi)] at h
    cases h
theorem its_rng (a : Int) (n : Nat) : ItS K (Itr a n) H O (rangeD a n) := by
  intro H2 O2 ok2 s i
  rw [range_len]
  refine ⟨fun hi => hi, fun hi => hi, fun x H3 d hd hy => ?_⟩
  obtain ⟨rfl, rfl⟩ := hy
  obtain ⟨_, rfl⟩ := range_get hd
  exact ⟨Same.refl _, .int _⟩
def zipD (xs ys : List D) : List D := xs.zipWith (fun x y => .tuple [x, y]) ys
theorem zip_get {xs ys : List D} {i : Nat} {d : D} (h : (zipD xs ys)[i]? = some d) : ∃ x y, xs[i]? = some x ∧ ys[i]? = some y ∧ d = .tuple [x, y] := by
  unfold zipD at h
  rw [List.getElem?_zipWith] at h
  cases e1 : xs[i]? with
  | none => rw [e1] at h; simp at h
  | some x =>
    cases e2 : ys[i]? with
    | none => rw [e1, e2] at h; simp at h
    | some y =>
      rw [e1, e2] at h
      cases h
      exact ⟨x, y, rfl, rfl, rfl⟩
theorem zip_len (xs ys : List D) : (zipD xs ys).length = min xs.length ys.length := by unfold zipD; rw [List.length_zipWith]
theorem zip_pair {H2 H3 : Hp} {O2 : AS} {Tt : Addr} {x y : V} {dx dy : D} (ok : OOk H2 O2) (n : H2 Tt = none) (hx : R K H2 O2 x dx) (hy : R K H2 O2 y dy) : Same H2 (upd H2 Tt (.tup [x, y])) ∧ R K (upd H2 Tt (.tup [x, y])) O2 (V.ref Tt) (.tuple [dx, dy]) :=
  ⟨same_upd n, .tup (.inl (.inl upd_same)) (.cons (hx.same ok (same_upd n)) (.cons (hy.same ok (same_upd n)) .nil))⟩
theorem zip_w {a b : Addr} {xs ys : List V} {dx dy : List D} (sq : Hp → Addr → List V → Prop) {J : It}
    (hJ : J = ⟨fun i H => ∃ (xs ys : List V) (x y : V), sq H a xs ∧ sq H b ys ∧ xs[i]? = some x ∧ ys[i]? = some y,
      fun i H v H' => ∃ T x y, v = V.ref T ∧ H T = none ∧ H' = upd H T (.tup [x, y]) ∧ (∀ xs, sq H a xs → xs[i]? = some x) ∧ ∀ ys, sq H b ys → ys[i]? = some y,
      fun i H => ∃ xs ys : List V, sq H a xs ∧ sq H b ys ∧ (xs.length ≤ i ∨ ys.length ≤ i)⟩)
    {H2 : Hp} {O2 : AS} (ok2 : OOk H2 O2) (ha : sq H2 a xs) (hb : sq H2 b ys) (rx : RA K H2 O2 xs dx) (ry : RA K H2 O2 ys dy) (i : Nat) :
    (i < (zipD dx dy).length → J.go i H2) ∧ ((zipD dx dy).length ≤ i → J.stop i H2) ∧ ∀ x H3 d, (zipD dx dy)[i]? = some d → J.yld i H2 x H3 → Same H2 H3 ∧ R K H3 O2 x d := by
  subst hJ
  rw [zip_len]
  have l1 := rx.length
  have l2 := ry.length
  refine ⟨fun hi => ?_, fun hi => ⟨xs, ys, ha, hb, by omega⟩, fun z H3 d hd hy => ?_⟩
  · have h1 : i < xs.length := by omega
    have h2 : i < ys.length := by omega
    exact ⟨xs, ys, xs[i], ys[i], ha, hb, by simp [h1], by simp [h2]⟩
  · obtain ⟨Tt, x, y, rfl, n, rfl, f1, f2⟩ := hy
    obtain ⟨u, v, e1, e2, rfl⟩ := zip_get hd
    obtain ⟨x', g1, r1⟩ := rx.get e1
    obtain ⟨y', g2, r2⟩ := ry.get e2
    have z1 := f1 xs ha
    have z2 := f2 ys hb
    rw [g1] at z1
    rw [g2] at z2
    cases z1; cases z2
    exact zip_pair (H3 := H2) ok2 n r1 r2
end
end
theorem items_it {d : D} {its : List D} (h : itemsOf .it [d] = some its) : d = .tuple its ∨ d = .list its := by
  cases d <;> simp [itemsOf] at h <;> simp_all
theorem items_r1 {d : D} {its : List D} (h : itemsOf .rng [d] = some its) : ∃ n : Int, d = .int n ∧ n ≤ 1000000 ∧ -1000000 ≤ n ∧ its = rangeD 0 n.toNat := by
  cases d <;> try (simp [itemsOf] at h; done)
  rename_i n
  simp only [itemsOf] at h
  split at h
  · rename_i hl
    cases h
    exact ⟨n, rfl, hl.1, hl.2, rfl⟩
  · cases h
theorem items_r2 {d e : D} {its : List D} (h : itemsOf .rng [d, e] = some its) : ∃ n m : Int, d = .int n ∧ e = .int m ∧ n ≤ 1000000 ∧ -1000000 ≤ n ∧ m ≤ 1000000 ∧ -1000000 ≤ m ∧ its = rangeD n (m - n).toNat := by
  cases d <;> try (simp [itemsOf] at h; done)
  cases e <;> try (simp [itemsOf] at h; done)
  rename_i n m
  simp only [itemsOf] at h
  split at h
  · rename_i hl
    cases h
    exact ⟨n, m, rfl, rfl, hl.1, hl.2.1, hl.2.2.1, hl.2.2.2, rfl⟩
  · cases h
theorem items_zip {d e : D} {its : List D} (h : itemsOf .zip [d, e] = some its) : ∃ xs ys, its = zipD xs ys ∧ ((d = .list xs ∧ e = .list ys) ∨ (d = .tuple xs ∧ e = .tuple ys)) := by
  cases d <;> cases e <;> simp [itemsOf] at h <;> (subst h; first | exact ⟨_, _, rfl, .inl ⟨rfl, rfl⟩⟩ | exact ⟨_, _, rfl, .inr ⟨rfl, rfl⟩⟩)
end Ev

set_option Elab.async false
set_option linter.all false
set_option maxRecDepth 100000
set_option maxHeartbeats 4000000
/-! EvG: the one induction over expressions. -/
namespace Ev
open PySem PySem.Spec PyProof.Rows L2

section
variable {X : Cx} {tg l : PySem.Expr}
/-- a list or a tuple that is walked -/
def iSeq (K : PySem.W.Frag) (tl : TE) : TI := fun σ H R => tl σ H fun x H1 => ∃ a, x = V.ref a ∧ ((∃ xs, SqL K H1 a xs ∧ (xs.length ≤ sizeLine → R (Itl K a) H1)) ∨ (∃ xs, SqT K H1 a xs ∧ (xs.length ≤ sizeLine → R (Itt K a) H1)))
theorem pi_seq {tl : TE} (hl : PE X l tl) : PI X tg l (iSeq X.K tl) := by
  constructor
  intro pins s σ H R I h
  refine thn (hl.run pins s σ H _ I h) fun v s1 z => ?_
  obtain ⟨x, H1, I1, r1, a, rfl, z⟩ := z
  have r1 : v = Value.ref a := r1
  subst r1
  have mem : ∀ (b : Addr), b ∈ [s1.heap.objs.size] → FpOk X pins H1 b := fun b hb => by
    rw [List.mem_singleton.mp hb]
    exact I1.fpOk (Nat.le_refl _) (I1.hok.fresh (Nat.le_refl _))
  rcases z with ⟨xs, hq, q⟩ | ⟨xs, hq, q⟩
  · obtain ⟨its, rv, p, hz⟩ := I1.list hq
    exact wpAny_pyIter_list p.isList ⟨s1.heap.objs.size, [s1.heap.objs.size], _, _, H1, rfl, I1.kept (t' := s1.toks) fun b o e => Heap.get?_push_of_some _ e, turn_list a _, ⟨_, Heap.get?_push_size _ rfl, rfl, rfl⟩, mem, q hz⟩
  · obtain ⟨its, rv, p, hz⟩ := I1.tuple hq
    exact wpAny_pyIter_tuple (show s1.heap.IsTuple a its.toArray from p) ⟨s1.heap.objs.size, [s1.heap.objs.size], _, _, H1, rfl, I1.kept (t' := s1.toks) fun b o e => Heap.get?_push_of_some _ e, turn_tuple a _, ⟨_, Heap.get?_push_size _ rfl, rfl, rfl⟩, mem, q hz⟩
end

section
variable {L : Lk} {T : Nat → Option Fn} {C : Nat → List D → Option D} {k : Nat} {N : List Str} {ow : List Nat}

/-- a test that is no and, or, not, comparison: by its value -/
theorem pt_of {X : Cx} {e : E} {pe : PySem.Expr} (h : PE X pe (rdE X.K C ow L.fr e)) (hp : ∀ whole, isTrue pe X.env whole = (do let v ← whole; standAt pe.pos; holding [v] (truthy v))) : PT X pe (rdT X.K C ow e) := by
  refine (pt_val h hp).imp ?_
  rintro σV H Q ⟨σ, O, b, r, ok, e, q⟩
  refine ⟨σ, O, _, r, ok, e, fun v H' p => ?_⟩
  have := p.wr.bool
  subst this
  exact ⟨b, rfl, q H' p.same⟩

def HasE (L : Lk) (C : Nat → List D → Option D) (T : Nat → Option Fn) (k : Nat) (N : List Str) (ow : List Nat) (e : E) : Prop := ∀ (X : Cx) (sc : Scope) (pe : PySem.Expr), Ctx L T C k X → X.N = N → X.env.scope = sc → isE L N ow sc e pe = true → PE X pe (rdE X.K C ow L.fr e)
def HasT (L : Lk) (C : Nat → List D → Option D) (T : Nat → Option Fn) (k : Nat) (N : List Str) (ow : List Nat) (e : E) : Prop := ∀ (X : Cx) (sc : Scope) (pe : PySem.Expr), Ctx L T C k X → X.N = N → X.env.scope = sc → isE L N ow sc e pe = true → PT X pe (rdT X.K C ow e)
def HasEs (L : Lk) (C : Nat → List D → Option D) (T : Nat → Option Fn) (k : Nat) (N : List Str) (ow : List Nat) (es : Es) : Prop := ∀ (X : Cx) (sc : Scope) (xs : List PySem.Expr), Ctx L T C k X → X.N = N → X.env.scope = sc → isEs L N ow sc es xs = true → PA X xs (rdEs X.K C ow es)
section
variable {X : Cx} {sc : Scope} {pe : PySem.Expr}
theorem g_tup {es : Es} (hs : HasEs L C T k N ow es) (c : Ctx L T C k X) (hN : X.N = N) (hsc : X.env.scope = sc) (h : isE L N ow sc (.tup es) pe = true) : PE X pe (rdE X.K C ow L.fr (.tup es)) := by
  unfold isE at h
  split at h
  · simp only [Bool.and_eq_true, decide_eq_true_eq] at h
    obtain ⟨⟨h1, h2⟩, h3⟩ := h
    refine (pe_tup (hs X sc _ c hN hsc h3)).imp ?_
    rintro σV H Q ⟨σ, O, d, r, ok, e, q⟩
    simp only [evE, Option.bind_eq_some_iff] at e
    obtain ⟨ds, e1, e2⟩ := e
    cases e2
    refine ⟨σ, O, ds, r, ok, e1, fun vs H' s _ ra => ?_⟩
    have ra := ra h1
    refine ⟨lim_line (by rw [ra.length, evEs_len h3 e1]; exact h2), fun p n => q _ _ (Post.back s (.tup (ok.same s) n ra))⟩
  · cases h
theorem g_lst {es : Es} (hs : HasEs L C T k N ow es) (c : Ctx L T C k X) (hN : X.N = N) (hsc : X.env.scope = sc) (h : isE L N ow sc (.lst es) pe = true) : PE X pe (rdE X.K C ow L.fr (.lst es)) := by
  unfold isE at h
  split at h
  · simp only [Bool.and_eq_true, decide_eq_true_eq] at h
    obtain ⟨⟨h1, h2⟩, h3⟩ := h
    refine (pe_lst (hs X sc _ c hN hsc h3)).imp ?_
    rintro σV H Q ⟨σ, O, d, r, ok, e, q⟩
    simp only [evE, Option.bind_eq_some_iff] at e
    obtain ⟨ds, e1, e2⟩ := e
    cases e2
    refine ⟨σ, O, ds, r, ok, e1, fun vs H' s _ ra => ?_⟩
    have ra := ra h1
    refine ⟨lim_line (by rw [ra.length, evEs_len h3 e1]; exact h2), fun p n => q _ _ (Post.back s (.lst (ok.same s) n ra))⟩
  · cases h
theorem g_edic {t : Bool} (h : isE L N ow sc (.edic t) pe = true) : PE X pe (rdE X.K C ow L.fr (.edic t)) := by
  unfold isE at h
  split at h
  · refine pe_dnewT.imp ?_
    rintro σV H Q ⟨σ, O, d, r, ok, e, q⟩
    cases e
    exact fun p n => q _ _ (.of (same_upd n) (R.dT (ks := []) (vs := []) (ds := []) upd_same (ok.fresh n) rfl .nil) fun _ => trivial)
  · cases h
theorem g_bin {o : Bop} {a b : E} (ha : HasE L C T k N ow a) (hb : HasE L C T k N ow b) (c : Ctx L T C k X) (hN : X.N = N) (hsc : X.env.scope = sc) (h : isE L N ow sc (.bin o a b) pe = true) : PE X pe (rdE X.K C ow L.fr (.bin o a b)) := by
  unfold isE at h
  split at h
  · simp only [Bool.and_eq_true, decide_eq_true_eq] at h
    obtain ⟨⟨rfl, h1⟩, h2⟩ := h
    have pa := ha X sc _ c hN hsc h1
    have pb := hb X sc _ c hN hsc h2
    exact s_two pa pb (pe_op (op_bin o) pa pb) (fun σ d z => bind2 z) fun u v H O dx dy d Q ok hu hv e q => ⟨O, dx, dy, d, ok, hu, hv, e, fun z H' p => q z H' p.weak⟩
  · cases h
theorem g_neg {a : E} (ha : HasE L C T k N ow a) (c : Ctx L T C k X) (hN : X.N = N) (hsc : X.env.scope = sc) (h : isE L N ow sc (.neg a) pe = true) : PE X pe (rdE X.K C ow L.fr (.neg a)) := by
  unfold isE at h
  split at h
  · refine (pe_un un_neg (ha X sc _ c hN hsc h)).imp ?_
    rintro σV H Q ⟨σ, O, d, r, ok, e, q⟩
    simp only [evE, Option.bind_eq_some_iff] at e
    obtain ⟨x, e1, e2⟩ := e
    split at e2
    · cases e2
      refine ⟨σ, O, _, r, ok, e1, fun v H' p => ?_⟩
      exact ⟨_, p.wr.int, q _ _ (Post.back p.same (.int _))⟩
    · cases e2
  · cases h
theorem g_not {a : E} (ha : HasE L C T k N ow a) (c : Ctx L T C k X) (hN : X.N = N) (hsc : X.env.scope = sc) (h : isE L N ow sc (.not a) pe = true) : PE X pe (rdE X.K C ow L.fr (.not a)) := by
  unfold isE at h
  split at h
  · refine (pe_not (ha X sc _ c hN hsc h)).imp ?_
    rintro σV H Q ⟨σ, O, d, r, ok, e, q⟩
    simp only [evE, Option.bind_eq_some_iff] at e
    obtain ⟨x, e1, e2⟩ := e
    cases e2
    refine ⟨σ, O, _, r, ok, tst_some e1, fun v H' p => ?_⟩
    exact ⟨_, p.wr.bool, q _ _ (Post.back p.same (.bl _))⟩
  · cases h
theorem g_notT {a : E} (ha : HasT L C T k N ow a) (c : Ctx L T C k X) (hN : X.N = N) (hsc : X.env.scope = sc) (h : isE L N ow sc (.not a) pe = true) : PT X pe (rdT X.K C ow (.not a)) := by
  unfold isE at h
  split at h
  · refine (pt_not (ha X sc _ c hN hsc h)).imp ?_
    rintro σV H Q ⟨σ, O, d, r, ok, e, q⟩
    simp only [evE, Option.bind_eq_some_iff] at e
    obtain ⟨x, e1, e2⟩ := e
    cases e2
    exact ⟨σ, O, _, r, ok, tst_some e1, fun H' s => q _ s⟩
  · cases h
theorem cop_mark {o : Cop} {b : E} {y : PySem.Expr} {sc : Scope} (h : isE L N ow sc b y = true) : behindInMarks (copO o) y = false := mark_plain fun x z w => (isE_plain h).2 x z w
theorem g_cmp {o : Cop} {a b : E} (ha : HasE L C T k N ow a) (hb : HasE L C T k N ow b) (c : Ctx L T C k X) (hN : X.N = N) (hsc : X.env.scope = sc) (h : isE L N ow sc (.cmp o a b) pe = true) : PE X pe (rdE X.K C ow L.fr (.cmp o a b)) := by
  unfold isE at h
  split at h
  · simp only [Bool.and_eq_true, decide_eq_true_eq] at h
    obtain ⟨⟨rfl, h1⟩, h2⟩ := h
    have pa := ha X sc _ c hN hsc h1
    have pb := hb X sc _ c hN hsc h2
    refine s_two pa pb (pe_cmpR (op_cop c.hu o) pa pb (cop_mark h2)) (fun σ d z => bind2 z) fun u v H O dx dy d Q ok hu hv e q => ?_
    obtain ⟨b, rfl⟩ := cmp_bool e
    exact ⟨O, dx, dy, _, ok, hu, hv, e, b, rfl, q _ _ (.bl b)⟩
  · cases h
theorem g_cmpT {o : Cop} {a b : E} (ha : HasE L C T k N ow a) (hb : HasE L C T k N ow b) (c : Ctx L T C k X) (hN : X.N = N) (hsc : X.env.scope = sc) (h : isE L N ow sc (.cmp o a b) pe = true) : PT X pe (rdT X.K C ow (.cmp o a b)) := by
  unfold isE at h
  split at h
  · simp only [Bool.and_eq_true, decide_eq_true_eq] at h
    obtain ⟨⟨rfl, h1⟩, h2⟩ := h
    refine (pt_cmpR (op_cop c.hu o) (ha X sc _ c hN hsc h1) (hb X sc _ c hN hsc h2) (cop_mark h2)).imp ?_
    rintro σV H Q ⟨σ, O, bb, r, ok, ev, q⟩
    obtain ⟨dx, dy, e1, e2, e3⟩ := bind2 ev
    refine ⟨σ, O, dx, r, ok, e1, fun u H1 p1 => ⟨σ, O, dy, r.same ok p1.same, ok.same p1.same, e2, fun v H2 p2 => ?_⟩⟩
    exact ⟨O, dx, dy, _, (ok.same p1.same).same p2.same, p1.wr.same (ok.same p1.same) p2.same, p2.wr, e3, bb, rfl, bb, rfl, q _ (p1.same.trans p2.same)⟩
  · cases h
theorem chain_ev {o o' : Cop} {x y : D} {oc : Option D} {d : D} (h : ((tst (cmpop o x y)).bind fun t => if t = true then oc.bind fun z => (tst (cmpop o' y z)).bind fun t' => some (PyData.bool t') else some (.bool false)) = some d) :
    (cmpop o x y = some (.bool false) ∧ d = .bool false) ∨ ∃ z b, cmpop o x y = some (.bool true) ∧ oc = some z ∧ cmpop o' y z = some (.bool b) ∧ d = .bool b := by
  simp only [Option.bind_eq_some_iff] at h
  obtain ⟨t, e1, e2⟩ := h
  have e1 := tst_some e1
  cases t with
  | false => rw [if_neg Bool.false_ne_true] at e2; cases e2; exact .inl ⟨e1, rfl⟩
  | true =>
    rw [if_pos rfl] at e2
    simp only [Option.bind_eq_some_iff] at e2
    obtain ⟨z, e2, b, e3, e4⟩ := e2
    cases e4
    exact .inr ⟨z, b, e1, e2, tst_some e3, rfl⟩
theorem g_chain {o o' : Cop} {a b e3 : E} (ha : HasE L C T k N ow a) (hb : HasE L C T k N ow b) (he : HasE L C T k N ow e3) (c : Ctx L T C k X) (hN : X.N = N) (hsc : X.env.scope = sc) (h : isE L N ow sc (.chain o o' a b e3) pe = true) :
    PE X pe (rdE X.K C ow L.fr (.chain o o' a b e3)) ∧ PT X pe (rdT X.K C ow (.chain o o' a b e3)) := by
  unfold isE at h
  split at h
  · simp only [Bool.and_eq_true, decide_eq_true_eq] at h
    obtain ⟨⟨⟨⟨rfl, rfl⟩, h1⟩, h2⟩, h3⟩ := h
    have key : ∀ {σV : L2.St} {H : Hp} {σ : Sl} {O : AS} {d : D} {Q : VK}, SRel X.K H O ow σV σ → OOk H O → evE C (.chain o o' a b e3) σ = some d → (∀ bb H', d = .bool bb → Same H H' → Q (.bl bb) H') →
        tChain (rCop X.K o) (rCop X.K o') (rdE X.K C ow L.fr a) (rdE X.K C ow L.fr b) (rdE X.K C ow L.fr e3) σV H Q := by
      intro σV H σ O d Q r ok e q
      simp only [evE, Option.bind_eq_some_iff] at e
      obtain ⟨dx, e1, dy, e2, e⟩ := e
      refine ⟨σ, O, dx, r, ok, e1, fun u H1 p1 => ⟨σ, O, dy, r.same ok p1.same, ok.same p1.same, e2, fun v H2 p2 => ?_⟩⟩
      have ok1 := ok.same p1.same
      have ok2 := ok1.same p2.same
      have wu := p1.wr.same ok1 p2.same
      have s2 := p1.same.trans p2.same
      have e' := chain_ev (o := o) (o' := o') (x := dx) (y := dy) (oc := evE C e3 σ) (d := d) (by simp only [Option.bind_eq_some_iff]; exact e)
      rcases e' with ⟨g1, rfl⟩ | ⟨z, b1, g1, g2, g3, rfl⟩
      · exact ⟨O, dx, dy, _, ok2, wu, p2.wr, g1, false, rfl, false, rfl, iteF (q _ _ rfl s2)⟩
      · refine ⟨O, dx, dy, _, ok2, wu, p2.wr, g1, true, rfl, true, rfl, iteT ⟨σ, O, z, (r.same ok p1.same).same ok1 p2.same, ok2, g2, fun w' H3 p3 => ?_⟩⟩
        exact ⟨O, dy, z, _, ok2.same p3.same, p2.wr.same ok2 p3.same, p3.wr, g3, b1, rfl, q _ _ rfl (s2.trans p3.same)⟩
    have mk : ∀ {x y : PySem.Expr}, isE L N ow sc e3 y = true → lastMarks [copO o, copO o'] [x, y] = false := fun {x y} z => cop_mark (o := o') z
    refine ⟨(pe_chain (op_cop c.hu o) (op_cop c.hu o') (ha X sc _ c hN hsc h1) (hb X sc _ c hN hsc h2) (he X sc _ c hN hsc h3) (mk h3)).imp ?_, (pt_chain (op_cop c.hu o) (op_cop c.hu o') (ha X sc _ c hN hsc h1) (hb X sc _ c hN hsc h2) (he X sc _ c hN hsc h3) (mk h3)).imp ?_⟩
    · rintro σV H Q ⟨σ, O, d, r, ok, e, q⟩
      exact key r ok e fun bb H' z s => by subst z; exact q _ _ (.of s (R.bl _) fun _ => trivial)
    · rintro σV H Q ⟨σ, O, d, r, ok, e, q⟩
      exact key (Q := fun x H' => ∃ k, x = .bl k ∧ Q k H') r ok e fun bb H' z s => by cases z; exact ⟨_, rfl, q _ s⟩
  · cases h
theorem g_ite {t a b : E} (ht : HasT L C T k N ow t) (ha : HasE L C T k N ow a) (hb : HasE L C T k N ow b) (c : Ctx L T C k X) (hN : X.N = N) (hsc : X.env.scope = sc) (h : isE L N ow sc (.ite t a b) pe = true) : PE X pe (rdE X.K C ow L.fr (.ite t a b)) := by
  unfold isE at h
  split at h
  · simp only [Bool.and_eq_true] at h
    obtain ⟨⟨h1, h2⟩, h3⟩ := h
    refine (pe_ifExp (ht X sc _ c hN hsc h1) (ha X sc _ c hN hsc h2) (hb X sc _ c hN hsc h3)).imp ?_
    rintro σV H Q ⟨σ, O, d, r, ok, e, q⟩
    simp only [evE, Option.bind_eq_some_iff] at e
    obtain ⟨bb, e1, e2⟩ := e
    refine ⟨σ, O, bb, r, ok, tst_some e1, fun H1 s => ?_⟩
    cases bb with
    | true =>
      refine iteT ⟨σ, O, d, r.same ok s, ok.same s, e2, fun v H' p => q v H' (Post.back s ⟨p.same, p.wr, fun z => p.r ?_, fun z => p.f ?_⟩)⟩
      · simp only [strong, Bool.and_eq_true] at z; exact z.1
      · simp only [isFresh, Bool.and_eq_true] at z; exact z.1
    | false =>
      refine iteF ⟨σ, O, d, r.same ok s, ok.same s, e2, fun v H' p => q v H' (Post.back s ⟨p.same, p.wr, fun z => p.r ?_, fun z => p.f ?_⟩)⟩
      · simp only [strong, Bool.and_eq_true] at z; exact z.2
      · simp only [isFresh, Bool.and_eq_true] at z; exact z.2
  · cases h
theorem g_iteT {t a b : E} (ht : HasT L C T k N ow t) (ha : HasT L C T k N ow a) (hb : HasT L C T k N ow b) (c : Ctx L T C k X) (hN : X.N = N) (hsc : X.env.scope = sc) (h : isE L N ow sc (.ite t a b) pe = true) : PT X pe (rdT X.K C ow (.ite t a b)) := by
  unfold isE at h
  split at h
  · simp only [Bool.and_eq_true] at h
    obtain ⟨⟨h1, h2⟩, h3⟩ := h
    have pt := ht X sc _ c hN hsc h1
    have pa := ha X sc _ c hN hsc h2
    have pb := hb X sc _ c hN hsc h3
    constructor
    rintro pins s σV H Q I ⟨σ, O, d, r, ok, e, q⟩
    simp only [evE, Option.bind_eq_some_iff] at e
    obtain ⟨bb, e1, e2⟩ := e
    refine isTrue_IfExp (thn (pt.run pins s σV H (fun t H1 => t = bb ∧ Same H H1) I ⟨σ, O, bb, r, ok, tst_some e1, fun H1 s => ⟨rfl, s⟩⟩) fun t s1 ⟨H1, I1, et, sm⟩ => ?_)
    subst et
    cases t with
    | true => exact pa.run pins s1 σV H1 Q I1 ⟨σ, O, d, r.same ok sm, ok.same sm, e2, fun H' s' => q H' (sm.trans s')⟩
    | false => exact pb.run pins s1 σV H1 Q I1 ⟨σ, O, d, r.same ok sm, ok.same sm, e2, fun H' s' => q H' (sm.trans s')⟩
  · cases h
theorem g_ix {a b : E} (ha : HasE L C T k N ow a) (hb : HasE L C T k N ow b) (c : Ctx L T C k X) (hN : X.N = N) (hsc : X.env.scope = sc) (h : isE L N ow sc (.ix a b) pe = true) : PE X pe (rdE X.K C ow L.fr (.ix a b)) := by
  unfold isE at h
  split at h
  · simp only [Bool.and_eq_true] at h
    obtain ⟨h1, h2⟩ := h
    have pa := ha X sc _ c hN hsc h1
    have pb := hb X sc _ c hN hsc h2
    refine s_two pa pb (pe_ix ix_D pa pb (plainIx fun l u s p => (isE_plain h2).1 l u s p)) (fun σ d z => bind2 z) fun u v H O dx dy d Q ok hu hv e q => ⟨O, dx, dy, d, ok, hu, hv, e, fun z rz => q z H (.of (Same.refl H) rz fun z => nomatch z)⟩
  · cases h
/-- a part of a slice -/
def rdO (K : PySem.W.Frag) (C : Nat → List D → Option D) (ow : List Nat) (e : E) : TO := fun σV H Q => ∃ σ O l, SRel K H O ow σV σ ∧ OOk H O ∧ oi (isNop e) (evE C e σ) = some l ∧ ∀ H', Same H H' → Q l H'
theorem g_part {e : E} {l : Option PySem.Expr} (he : HasE L C T k N ow e) (c : Ctx L T C k X) (hN : X.N = N) (hsc : X.env.scope = sc) (hn : l = none → isNop e = true) (h : ∀ x, l = some x → isNop e = false ∧ isE L N ow sc e x = true) : PO X l (rdO X.K C ow e) := by
  cases l with
  | none =>
    refine po_none.imp ?_
    rintro σV H Q ⟨σ, O, l, r, ok, e1, q⟩
    rw [hn rfl] at e1
    cases e1
    exact q H (Same.refl H)
  | some x =>
    have h := h x rfl
    refine (po_some (he X sc _ c hN hsc h.2)).imp ?_
    rintro σV H Q ⟨σ, O, l, r, ok, e1, q⟩
    rw [h.1] at e1
    unfold oi at e1
    rw [if_neg Bool.false_ne_true] at e1
    simp only [Option.bind_eq_some_iff] at e1
    obtain ⟨d, e1, e2⟩ := e1
    split at e2
    · cases e2
      exact ⟨σ, O, _, r, ok, e1, fun v H' p => ⟨_, p.wr.int, q H' p.same⟩⟩
    · cases e2
theorem g_sl {a lo hi : E} (ha : HasE L C T k N ow a) (hl : HasE L C T k N ow lo) (hh : HasE L C T k N ow hi) (c : Ctx L T C k X) (hN : X.N = N) (hsc : X.env.scope = sc) (h : isE L N ow sc (.sl a lo hi) pe = true) : PE X pe (rdE X.K C ow L.fr (.sl a lo hi)) := by
  unfold isE at h
  split at h
  · simp only [Bool.and_eq_true] at h
    obtain ⟨⟨h1, h2⟩, h3⟩ := h
    refine (pe_slice sl_D (ha X sc _ c hN hsc h1) (g_part hl c hN hsc (fun z => by subst z; exact h2) (fun x z => by subst z; simpa using h2)) (g_part hh c hN hsc (fun z => by subst z; exact h3) (fun x z => by subst z; simpa using h3))).imp ?_
    rintro σV H Q ⟨σ, O, d, r, ok, e, q⟩
    simp only [evE, Option.bind_eq_some_iff] at e
    obtain ⟨x, e1, l, e2, u, e3, e4⟩ := e
    refine ⟨σ, O, x, r, ok, e1, fun v H1 p1 => ⟨σ, O, l, r.same ok p1.same, ok.same p1.same, e2, fun H2 s2 => ⟨σ, O, u, (r.same ok p1.same).same (ok.same p1.same) s2, (ok.same p1.same).same s2, e3, fun H3 s3 => ?_⟩⟩⟩
    exact ⟨O, x, d, ((ok.same p1.same).same s2).same s3, (p1.wr.same (ok.same p1.same) s2).same ((ok.same p1.same).same s2) s3, e4, fun v H' p => q v H' (Post.back (p1.same.trans (s2.trans s3)) p.weak)⟩
  · cases h
theorem g_rev {a : E} (ha : HasE L C T k N ow a) (c : Ctx L T C k X) (hN : X.N = N) (hsc : X.env.scope = sc) (h : isE L N ow sc (.rev a) pe = true) : PE X pe (rdE X.K C ow L.fr (.rev a)) := by
  unfold isE at h
  split at h
  · refine (pe_revL (ha X sc _ c hN hsc h)).imp ?_
    rintro σV H Q ⟨σ, O, d, r, ok, e, q⟩
    simp only [evE, Option.bind_eq_some_iff] at e
    obtain ⟨x, e1, e2⟩ := e
    split at e2
    · cases e2
      refine ⟨σ, O, _, r, ok, e1, fun v H' p => ?_⟩
      obtain ⟨a, vs, rfl, h1, r1⟩ := p.wr.lst
      exact ⟨a, vs, rfl, .inl (.inl h1), fun p' n => q _ _ (Post.back p.same (.lst (ok.same p.same) n r1.snoc_rev))⟩
    · cases e2
  · cases h
theorem isE_star {e : E} {pe : PySem.Expr} (h : isE L N ow sc e pe = true) : plainX pe = true := by
  cases pe <;> first | rfl | (exfalso; cases e <;> simp [isE] at h)
theorem g_isi {a : E} {t : Ty} (ha : HasE L C T k N ow a) (c : Ctx L T C k X) (hN : X.N = N) (hsc : X.env.scope = sc) (h : isE L N ow sc (.isi a t) pe = true) : PE X pe (rdE X.K C ow L.fr (.isi a t)) := by
  unfold isE at h
  split at h
  · simp only [Bool.and_eq_true, beq_iff_eq] at h
    obtain ⟨⟨⟨⟨⟨⟨h1, rfl⟩, h3⟩, h4⟩, rfl⟩, h6⟩, h7⟩ := h
    have g1 : Gl X ("isinstance" : Str) := by show X.env.scope.names.lookup _ = _; rw [hsc]; exact glbC_iff h3
    have g2 : Gl X (tyN t : Str) := by show X.env.scope.names.lookup _ = _; rw [hsc]; exact glbC_iff h6
    obtain ⟨n1, n2⟩ := ty_name t
    have hpl : plainX _ = true := isE_star h1
    refine (pe_callB call_isi g1 (c.bls _ h4) boot_isinstance (pa_cons (ha X sc _ c hN hsc h1) (pa_cons (pe_bltn (v := .ty (tyN t)) g2 (c.bls _ h7) (boot_ty t) rfl n1 n2) pa_nil) (star_plain hpl _ _)) (by decide) (by decide) (star_plain hpl _ _) rfl).imp ?_
    rintro σV H Q ⟨σ, O, d, r, ok, e, q⟩
    simp only [evE, Option.bind_eq_some_iff] at e
    obtain ⟨x, e1, e2⟩ := e
    split at e2
    · cases e2
    · rename_i nr
      cases e2
      refine ⟨σ, O, x, r, ok, e1, fun v H' p => ?_⟩
      exact ⟨v, .ty (tyN t), _, _, _, rfl, .ty _, ty_of (ok.same p.same) p.wr (by simpa using nr), kit_D X.K x t, q _ _ (Post.back p.same (.bl _))⟩
  · cases h
end
end
end Ev

set_option Elab.async false
set_option linter.all false
set_option maxRecDepth 100000
set_option maxHeartbeats 4000000
/-! EvH: calls, comprehensions, and the one induction over expressions. -/
namespace Ev
open PySem PySem.Spec PyProof.Rows L2

/-- what stands is not too long -/
def SzOk (K : PySem.W.Frag) (H : Hp) : Prop := ∀ a xs, SqL K H a xs ∨ SqT K H a xs → xs.length ≤ sizeLine
theorem inv_sz {X : Cx} {pins : List (Addr × Obj)} {σ : L2.St} {H : Hp} {s : Shared} (I : Inv X pins σ H s) : SzOk X.K H := fun a xs h => by
  rcases h with h | h
  · obtain ⟨_, _, _, z⟩ := I.list h; exact z
  · obtain ⟨_, _, _, z⟩ := I.tuple h; exact z
theorem pa_sz {X : Cx} {es : List PySem.Expr} {t : TA} (h : PA X es t) : PA X es (fun σ H Q => t σ H fun vs H1 => SzOk X.K H1 → Q vs H1) := ⟨fun pos pins s σ H Q I hw =>
  thn (h.run pos pins s σ H _ I hw) fun us s' ⟨vs, H', I', r, q⟩ => ⟨vs, H', I', r, q (inv_sz I')⟩⟩

section
variable {K : PySem.W.Frag} {H H' : Hp} {O O' : AS} {ow : List Nat} {σV : L2.St} {σ : Sl}
/-- a later state in which more is owned, but nothing that stood -/
theorem SRel.more (ok : OOk H O) (r : SRel K H O ow σV σ) (s : Same H H') (m : ∀ b, H b ≠ none → O' b → O b) (m' : ∀ b, O b → O' b) : SRel K H' O' ow σV σ := by
  have ev : Evo H O H' O' := evo_of s m
  refine ⟨r.len, fun i d h => ?_, r.apart⟩
  obtain ⟨v, e, a, b⟩ := r.slot i d h
  refine ⟨v, e, fun n => (a n).evo ok ev, fun n => ?_⟩
  obtain ⟨p, x, y, z⟩ := b n
  refine ⟨p, x, m' _ y, ?_⟩
  cases d with
  | list ds => obtain ⟨vs, e1, r1⟩ := z; exact ⟨vs, s _ _ e1, r1.evo ok ev⟩
  | dict kvs => obtain ⟨ks, vs, ds, e1, l, r1, z⟩ := z; exact ⟨ks, vs, ds, s _ _ e1, l, r1.evo ok ev, z⟩
  | _ => exact z.elim
end
theorem wipe_eq {a b : L2.St} {vs : List Nat} (hl : a.length = b.length) (h : ∀ i, i ∉ vs → a[i]? = b[i]?) : L2.wipe a vs = L2.wipe b vs := by
  refine List.ext_getElem? fun i => ?_
  by_cases hi : i ∈ vs
  · have key : ∀ {x : L2.St} {vs : List Nat}, i ∈ vs → (L2.wipe x vs)[i]? = if i < x.length then some none else none := by
      intro x vs
      induction vs with
      | nil => intro z; cases z
      | cons v vs ih =>
        intro z
        show ((L2.wipe x vs).set v none)[i]? = _
        by_cases e : v = i
        · subst e
          by_cases q : v < (L2.wipe x vs).length
          · rw [List.getElem?_set_self q, if_pos (by rw [L2.wipe_length] at q; exact q)]
          · rw [List.getElem?_eq_none (by simpa using q), if_neg (by rw [L2.wipe_length] at q; exact q)]
        · rw [List.getElem?_set_ne e]
          exact ih ((List.mem_cons.mp z).resolve_left fun q => e q.symm)
    rw [key hi, key hi, hl]
  · rw [L2.wipe_out hi, L2.wipe_out hi, h i hi]

section
variable {L : Lk} {T : Nat → Option Fn} {C : Nat → List D → Option D} {k : Nat} {N : List Str} {ow : List Nat} {X : Cx} {sc : Scope} {pe : PySem.Expr}
theorem g_call {f : Nat} {w : Bool} {es : Es} (hs : HasEs L C T k N ow es) (c : Ctx L T C k X) (hN : X.N = N) (hsc : X.env.scope = sc) (h : isE L N ow sc (.call f w es) pe = true) : PE X pe (rdE X.K C ow L.fr (.call f w es)) := by
  unfold isE at h
  split at h
  · rename_i x p xs pos
    simp only [Bool.and_eq_true, Bool.not_eq_true', Bool.or_eq_true, noDbg] at h
    obtain ⟨⟨⟨⟨⟨h1, h2⟩, h3⟩, h4, h5⟩, h6⟩, h7⟩ := h
    obtain ⟨fn, a, fd, ps, eT, hm, hk, hb, F, hmu, hfr⟩ := c.fns f x h1
    have hg : Gl X x := by show X.env.scope.names.lookup _ = _; rw [hsc]; exact glbC_iff h3
    have mu0 : fn.mu = false := by rw [← hmu]; exact h2
    have core : ∀ (σV : L2.St) (H : Hp) (Q : VK), rdE X.K C ow L.fr (.call f w es) σV H Q → tCall (spF X.K fn (C f)) [] E0 (rdEs X.K C ow es) σV H Q := by
      rintro σV H Q ⟨σ, O, d, r, ok, e, q⟩
      simp only [evE, Option.bind_eq_some_iff] at e
      obtain ⟨ds, e1, v, e2, e3⟩ := e
      split at e3
      · cases e3
      · rename_i hp
        cases e3
        refine ⟨σ, O, ds, r, ok, e1, fun vs H' s wa ra => ?_⟩
        have ok' := ok.same s
        show spF X.K fn (C f) (vs ++ []) H' Q E0
        rw [List.append_nil]
        unfold spF
        rw [if_neg (by rw [mu0]; exact Bool.false_ne_true)]
        have npe : ∀ {O2 : AS}, OOk H' O2 → RA X.K H' O2 vs ds → ds.length = fn.np := fun {O2} o2 r2 => by
          by_cases z : ds.length = fn.np
          · exact z
          · exact (c.np f fn ds _ eT z e2).elim
        by_cases hst : strongs ow es = true
        · have r2 := ra hst
          exact ⟨ds, d, O, ok', r2, npe ok' r2, e2, fun v H2 s2 rv fv => q v H2 (Post.back s ⟨s2, .inr rv, fun _ => rv, fun z => fv (by rw [← hfr]; exact z)⟩)⟩
        · have hw : w = true := by
            rcases h6 with z | z
            · exact z
            · exact absurd z hst
          have hpu : pureD d = true := by
            cases z : pureD d with
            | true => rfl
            | false => rw [hw, z] at hp; exact absurd rfl hp
          have r2 : RA X.K H' aNo vs ds := by
            clear ra npe e1 e2
            induction wa with
            | nil => exact .nil
            | cons h _ ih => exact .cons (h.free ok') ih
          exact ⟨ds, d, aNo, .no _, r2, npe (.no _) r2, e2, fun v H2 s2 rv fv => q v H2 (Post.back s (by
            have rv' : R X.K H2 O v d := rv.pure hpu
            exact ⟨s2, .inr rv', fun _ => rv', fun _ => by cases d <;> first | trivial | simp [pureD] at hpu⟩))⟩
    cases xs with
    | nil =>
      have hpa : PA X [] (rdEs X.K C ow es) := hs X sc [] c hN hsc h7
      refine (pe_call0 F c.room hg hm hk hb .nil pass0 h4).imp fun σV H Q z => ?_
      obtain ⟨σ, O, ds, r, ok, e1, q⟩ := core σV H Q z
      cases es with
      | nil => cases e1; exact q [] H (Same.refl H) .nil fun _ => .nil
      | cons => simp [isEs] at h7
    | cons x0 xs =>
      have hpl : plainX x0 = true := by
        cases es with
        | nil => simp [isEs] at h7
        | cons => simp only [isEs, Bool.and_eq_true] at h7; exact h7.1.1
      have h8 : ∃ es2, isEs L N ow sc es2 xs = true := by
        cases es with
        | nil => simp [isEs] at h7
        | cons e es => simp only [isEs, Bool.and_eq_true] at h7; exact ⟨es, h7.2⟩
      obtain ⟨es2, h8⟩ := h8
      exact (pe_call F c.room hg hm hk hb .nil pass0 (hs X sc _ c hN hsc h7) h4 (star_plain hpl _ _) (star_any _ _ h8)).imp core
  · cases h
theorem blt_name {b : Blt} {x : Str} (h : bltC L sc b x = true) (c : Ctx L T C k X) (hsc : X.env.scope = sc) {x0 : PySem.Expr} {xs : List PySem.Expr} {p pos : Pos} {t : TA} (hpl : plainX x0 = true) (hst : (backTo pos (starEach xs X.env)).any (·.1) = false)
    (ha : PA X (x0 :: xs) t) : PE X (.Call (.Name x p) (x0 :: xs) [] pos) (tCB (rBlt X.K b) t) := by
  unfold bltC at h
  simp only [Bool.and_eq_true, noDbg, Bool.not_eq_true', bne_iff_ne, ne_eq] at h
  obtain ⟨⟨⟨h1, h2, h3⟩, h4⟩, h5⟩ := h
  have hg : Gl X x := by show X.env.scope.names.lookup _ = _; rw [hsc]; exact glbC_iff h1
  have hs := star_plain hpl xs X.env
  have cb := call_blt (X := X) c.calm b
  split at h5
  · exact pe_callBfun (id := "math.gcd") cb hg (c.mfs _ _ h5) ha h2 hs hst
  · exact pe_callBfun (id := "math.comb") cb hg (c.mfs _ _ h5) ha h2 hs hst
  · rename_i n1 n2
    simp only [Bool.and_eq_true, beq_iff_eq] at h5
    obtain ⟨rfl, h6⟩ := h5
    have hb := boot_blt b (fun z => n1 z) (fun z => n2 z)
    have hm := c.bls _ h6
    cases b <;> first
      | exact absurd rfl n1
      | exact absurd rfl n2
      | exact pe_callB cb hg hm hb ha h4 h2 hs hst
      | exact pe_callTy cb hg hm hb ha h4 h2 hs hst
theorem g_blt {b : Blt} {es : Es} (hs : HasEs L C T k N ow es) (c : Ctx L T C k X) (hN : X.N = N) (hsc : X.env.scope = sc) (h : isE L N ow sc (.blt b es) pe = true) : PE X pe (rdE X.K C ow L.fr (.blt b es)) := by
  unfold isE at h
  split at h
  · rename_i x p x0 xs pos
    simp only [Bool.and_eq_true] at h
    obtain ⟨h1, h7⟩ := h
    have h8 : plainX x0 = true ∧ ∃ es2, isEs L N ow sc es2 xs = true := by
      cases es with
      | nil => simp [isEs] at h7
      | cons e es => simp only [isEs, Bool.and_eq_true] at h7; exact ⟨h7.1.1, es, h7.2⟩
    obtain ⟨hpl, es2, h8⟩ := h8
    refine (blt_name h1 c hsc hpl (star_any _ _ h8) (hs X sc _ c hN hsc h7)).imp ?_
    rintro σV H Q ⟨σ, O, d, r, ok, e, q⟩
    simp only [evE, Option.bind_eq_some_iff] at e
    obtain ⟨ds, e1, e2⟩ := e
    refine ⟨σ, O, ds, r, ok, e1, fun vs H' s wa _ => ⟨O, ds, d, ok.same s, wa, e2, fun v H2 p => q v H2 (Post.back s ⟨p.same, p.wr, fun _ => p.r rfl, fun z => p.f ?_⟩)⟩⟩
    cases b <;> first | exact z | cases z
  · cases h
/-- the condition of a comprehension -/
def rdC (K : PySem.W.Frag) (C : Nat → List D → Option D) (ow : List Nat) (e : E) : TT := fun σV H Q => ∃ σ O b, SRel K H O ow σV σ ∧ OOk H O ∧ oc (isNop e) (evE C e σ) = some b ∧ ∀ H', Same H H' → Q b H'
theorem g_src {s : Src} {es : Es} {tg : PySem.Expr} {tup : Bool} (htup : tup = isTupX tg) (hE : ∀ e, es = .cons e .nil → HasE L C T k N ow e) (hs : HasEs L C T k N ow es) (c : Ctx L T C k X) (hN : X.N = N) (hsc : X.env.scope = sc) (h : isSrc L N ow sc s es tup pe = true) :
    PI X tg pe (rdI X.K C ow s es) ∧ (∀ env x, foldedSetIterable pe env x = pure x) := by
  cases s
  · -- a value
    simp only [isSrc] at h
    split at h
    · rename_i e
      simp only [Bool.and_eq_true] at h
      refine ⟨(pi_seq (hE e rfl X sc _ c hN hsc h.2)).imp ?_, fun env => folded_plain (fun x y z w => (isE_plain h.2).2 x y z w) env⟩
      rintro σV H Q ⟨σ, O, ds, its, r, ok, e1, e2, q⟩
      simp only [evEs, Option.bind_eq_some_iff] at e1
      obtain ⟨d, e1, r1, e3, e4⟩ := e1
      cases e3; cases e4
      refine ⟨σ, O, d, r, ok, e1, fun v H' p => ?_⟩
      have ok' := ok.same p.same
      rcases items_it e2 with rfl | rfl
      · obtain ⟨a, vs, rfl, h1, ra⟩ := p.wr.tup ok'
        exact ⟨a, rfl, .inr ⟨vs, h1, fun z => q _ _ p.same (by rw [← ra.length]; exact z) (itw_tup ok' h1 ra).w fun _ => itw_tup ok' h1 ra⟩⟩
      · obtain ⟨a, vs, e5, h1, ra⟩ := p.wr.lst
        subst e5
        refine ⟨a, rfl, .inl ⟨vs, .inl (.inl h1), fun z => q _ _ p.same (by rw [← ra.length]; exact z) (itw_lst ok' h1 ra) fun hst => ?_⟩⟩
        have hr := p.r (by simpa [strongs] using hst)
        cases hr with
        | lst h2 n ra2 => exact its_lst ok' h2 n ra2
    · cases h
  · -- range
    simp only [isSrc] at h
    split at h
    · simp only [Bool.and_eq_true, beq_iff_eq, Bool.or_eq_true] at h
      obtain ⟨⟨⟨⟨rfl, h2⟩, h3⟩, h4⟩, h5⟩ := h
      have hg : Gl X ("range" : Str) := by show X.env.scope.names.lookup _ = _; rw [hsc]; exact glbC_iff h2
      have hm := c.bls _ h3
      have pa := hs X sc _ c hN hsc h5
      refine ⟨?_, fun _ x => rfl⟩
      rename_i xs pos
      match xs, h4, h5, pa with
      | [a], _, h5, pa =>
        have hst := star_plain (e := a) (by cases es with | nil => simp [isEs] at h5 | cons => simp only [isEs, Bool.and_eq_true] at h5; exact h5.1.1) [] X.env
        refine (pi_range1 hg hm pa hst).imp ?_
        rintro σV H Q ⟨σ, O, ds, its, r, ok, e1, e2, q⟩
        refine ⟨σ, O, ds, r, ok, e1, fun vs H' s wa _ => ?_⟩
        have l := evEs_len h5 e1
        match ds, l with
        | [d], _ =>
          obtain ⟨v, rfl, w'⟩ := wa.one
          obtain ⟨n, rfl, l1, l2, rfl⟩ := items_r1 e2
          cases w'.int
          exact ⟨n, rfl, by omega, by omega, q _ _ s (by rw [range_len]; exact lim_line (by show n.toNat ≤ 1000000; omega)) (its_rng 0 _).w fun _ => its_rng 0 _⟩
      | [a, b], _, h5, pa =>
        have h5' : plainX a = true ∧ plainX b = true := by
          cases es with
          | nil => simp [isEs] at h5
          | cons e es => cases es with
            | nil => simp [isEs] at h5
            | cons => simp only [isEs, Bool.and_eq_true] at h5; exact ⟨h5.1.1, h5.2.1.1⟩
        have hst := star_plain h5'.1 [b] X.env
        have hst2 := star_plain h5'.2 [] X.env
        refine (pi_range2 hg hm pa (by rw [hst, hst2]; rfl) hst2).imp ?_
        rintro σV H Q ⟨σ, O, ds, its, r, ok, e1, e2, q⟩
        refine ⟨σ, O, ds, r, ok, e1, fun vs H' s wa _ => ?_⟩
        have l := evEs_len h5 e1
        match ds, l with
        | [d, d2], _ =>
          obtain ⟨v, u, rfl, w', w2⟩ := wa.two
          obtain ⟨n, m, rfl, rfl, l1, l2, l3, l4, rfl⟩ := items_r2 e2
          cases w'.int; cases w2.int
          exact ⟨n, m, rfl, ⟨by omega, by omega, by omega, by omega⟩, q _ _ s (by rw [range_len, sizeLine_eq]; omega) (its_rng n _).w fun _ => its_rng n _⟩
    · cases h
  · -- zip
    simp only [isSrc] at h
    split at h
    · simp only [Bool.and_eq_true, beq_iff_eq] at h
      obtain ⟨⟨⟨⟨⟨rfl, h2⟩, h3⟩, h4⟩, h6⟩, h5⟩ := h
      have hg : Gl X ("zip" : Str) := by show X.env.scope.names.lookup _ = _; rw [hsc]; exact glbC_iff h2
      have hm := c.bls _ h3
      have pa := pa_sz (hs X sc _ c hN hsc h5)
      refine ⟨?_, fun _ x => rfl⟩
      rename_i xs pos
      match xs, h6, h5, pa with
      | [a, b], _, h5, pa =>
        have h5' : plainX a = true ∧ plainX b = true := by
          cases es with
          | nil => simp [isEs] at h5
          | cons e es => cases es with
            | nil => simp [isEs] at h5
            | cons => simp only [isEs, Bool.and_eq_true] at h5; exact ⟨h5.1.1, h5.2.1.1⟩
        have hst := star_plain h5'.1 [b] X.env
        have hst2 := star_plain h5'.2 [] X.env
        subst htup
        cases tg <;> first | (cases h4; done) | skip
        refine (RZ.pi_zipA hg hm pa hst (by rw [hst2]; rfl)).imp ?_
        rintro σV H Q ⟨σ, O, ds, its, r, ok, e1, e2, q⟩
        refine ⟨σ, O, ds, r, ok, e1, fun vs H' s wa ra sz => ?_⟩
        have l := evEs_len h5 e1
        have ok' := ok.same s
        match ds, l with
        | [d, d2], _ =>
          obtain ⟨v, u, rfl, w', w2⟩ := wa.two
          obtain ⟨xd, yd, rfl, ⟨rfl, rfl⟩ | ⟨rfl, rfl⟩⟩ := items_zip e2
          · obtain ⟨a1, us1, rfl, g1, r1⟩ := w'.lst
            obtain ⟨a2, us2, rfl, g2, r2⟩ := w2.lst
            have q1 : SqL X.K H' a1 us1 := .inl (.inl g1)
            have q2 : SqL X.K H' a2 us2 := .inl (.inl g2)
            have hlen := sz a1 us1 (.inl q1)
            rw [r1.length] at hlen
            refine ⟨a1, a2, us1, us2, rfl, .inl ⟨q1, q2, q _ _ s (by rw [zip_len]; omega) ?_ fun hst => ?_⟩⟩
            · intro H2 O2 ok2 s2 m i
              exact zip_w (fun H a xs => SqL X.K H a xs) rfl ok2 (.inl (.inl (s2 _ _ g1))) (.inl (.inl (s2 _ _ g2))) (r1.evo ok' (evo_of s2 m)) (r2.evo ok' (evo_of s2 m)) i
            · have rr := ra hst
              cases rr with
              | cons x1 rr => cases rr with
                | cons x2 _ =>
                  cases x1 with
                  | lst y1 n1 z1 => cases x2 with
                    | lst y2 n2 z2 =>
                      rw [g1] at y1; cases y1
                      rw [g2] at y2; cases y2
                      intro H2 O2 ok2 ev i
                      exact zip_w (fun H a xs => SqL X.K H a xs) rfl ok2 (.inl (.inl (ev _ _ g1 n1).1)) (.inl (.inl (ev _ _ g2 n2).1)) (z1.evo ok' ev) (z2.evo ok' ev) i
          · obtain ⟨a1, us1, rfl, g1, r1⟩ := w'.tup ok'
            obtain ⟨a2, us2, rfl, g2, r2⟩ := w2.tup ok'
            have hlen := sz a1 us1 (.inr g1)
            rw [r1.length] at hlen
            have key : ItS X.K (RZ.ItzT X.K a1 a2) H' O (zipD xd yd) := fun H2 O2 ok2 ev i =>
              zip_w (fun H a xs => SqT X.K H a xs) rfl ok2 (rd_tup ok' ev.keep g1) (rd_tup ok' ev.keep g2) (r1.evo ok' ev) (r2.evo ok' ev) i
            exact ⟨a1, a2, us1, us2, rfl, .inr ⟨g1, g2, q _ _ s (by rw [zip_len]; omega) key.w fun _ => key⟩⟩
    · cases h
  · simp [isSrc] at h
end
end Ev

set_option Elab.async false
set_option linter.all false
set_option maxRecDepth 100000
set_option maxHeartbeats 4000000
/-! EvI: comprehensions; the one induction over expressions. -/
namespace Ev
open PySem PySem.Spec PyProof.Rows L2

section
variable {L : Lk} {T : Nat → Option Fn} {C : Nat → List D → Option D} {k : Nat} {N : List Str} {ow : List Nat} {X : Cx} {sc : Scope} {pe : PySem.Expr}
theorem own_map (N : List Str) (t : Tg) : (ownOf N t).map (·.2) = tgOwn t := by
  unfold ownOf
  rw [List.map_map]
  exact List.map_id _
/-- one turn's function -/
def compF (C : Nat → List D → Option D) (elt : E) (tg : Tg) (c : E) (σ : Sl) (d : D) : Option (Option D) :=
  (bindT tg d (swipe σ (tgOwn tg))).bind fun σ' => (oc (isNop c) (evE C c σ')).bind fun t => if t then (evE C elt σ').bind fun x => some (some x) else some none
/-- the reading of a comprehension -/
theorem lc_read {K : PySem.W.Frag} {elt c : E} {tg : Tg} {s : Src} {src : Es} {σV : L2.St} {H : Hp} {Q : VK} (hst : strong ow elt = true)
    (h : rdE K C ow L.fr (.comp elt tg s src c) σV H Q) : tLc (rdI K C ow s src) (rdG K ow tg) (rdC K C ow c) (rdE K C ow L.fr elt) (tgOwn tg) σV H Q := by
  obtain ⟨σ, O, d, r, ok, e, q⟩ := h
  simp only [evE, Option.bind_eq_some_iff] at e
  obtain ⟨ds, e1, its, e2, rs, e3, e4⟩ := e
  cases e4
  have e3 : compGo (compF C elt tg c σ) its = some rs := e3
  refine ⟨σ, O, ds, its, r, ok, e1, e2, fun J H1 s1 hlen iw _ => fun Dd nD => ?_⟩
  have ok1 := ok.same s1
  -- within the block the new list is owned
  let OD : AS := fun b => O b ∨ b = Dd
  refine ⟨fun i m H2 => m = its.length - i ∧ i ≤ its.length ∧ ∃ acc accD rest, H2 Dd = some (.lst acc) ∧ OOk H2 OD ∧ Same H1 H2 ∧ RA K H2 OD acc accD ∧ acc.length ≤ i ∧ compGo (compF C elt tg c σ) (its.drop i) = some rest ∧ accD ++ rest = rs,
    ⟨its.length, by simp, Nat.zero_le _, [], [], rs, upd_same, ?_, same_upd nD, .nil, Nat.zero_le _, by simpa using e3, rfl⟩, ?_⟩
  · intro p hp
    rcases hp with hp | rfl
    · have ne : p ≠ Dd := fun z => ok1.some (z ▸ hp) nD
      rw [upd_ne ne]
      exact ok1 p hp
    · exact .inl ⟨[], upd_same⟩
  · rintro i m H2 ⟨rfl, hi, acc, accD, rest, hD, ok2, s2, ra, hl, e5, e6⟩
    have nold : ∀ b, H1 b ≠ none → OD b → O b := fun b hb z => z.elim id fun z => absurd (z ▸ nD) hb
    obtain ⟨g1, g2, g3⟩ := iw H2 OD ok2 s2 nold i
    by_cases hlt : i < its.length
    · refine .inr ⟨g1 hlt, fun H' => ∃ acc accD rest, H' Dd = some (.lst acc) ∧ OOk H' OD ∧ Same H1 H' ∧ RA K H' OD acc accD ∧ acc.length ≤ i + 1 ∧ compGo (compF C elt tg c σ) (its.drop (i + 1)) = some rest ∧ accD ++ rest = rs,
        fun H' z => ⟨its.length - (i + 1), by omega, rfl, hlt, z⟩, fun x H3 hy => ?_⟩
      have hget : its[i]? = some its[i] := List.getElem?_eq_getElem hlt
      obtain ⟨s3, rx⟩ := g3 x H3 _ hget hy
      rw [List.drop_eq_getElem_cons hlt] at e5
      simp only [compGo, Option.bind_eq_some_iff] at e5
      obtain ⟨o, e7, rest', e8, e9⟩ := e5
      have e7 : compF C elt tg c σ its[i] = some o := e7
      unfold compF at e7
      simp only [Option.bind_eq_some_iff] at e7
      obtain ⟨σ', e10, t, e11, e12⟩ := e7
      have ok3 := ok2.same s3
      have s13 := s2.trans s3
      have r3 : SRel K H3 OD ow (L2.wipe σV (tgOwn tg)) (swipe σ (tgOwn tg)) := ((r.same ok s1).more ok1 s13 nold fun b z => .inl z).wipe _
      refine ⟨_, OD, _, σ', r3, ok3, rx, e10, fun σV2 r4 l4 k4 => ⟨?_, σ', OD, t, r4, ok3, e11, fun H4 s4 => ?_⟩⟩
      · refine wipe_eq ?_ fun j hj => ?_
        · rw [l4, L2.wipe_length]
        · rw [k4 j hj, L2.wipe_out hj]
      · have ok4 := ok3.same s4
        have s14 := s13.trans s4
        have s24 := s3.trans s4
        cases t with
        | false =>
          rw [if_neg Bool.false_ne_true] at e12
          cases e12
          cases e9
          exact iteF ⟨acc, accD, rest', s24 _ _ hD, ok4, s14, ra.same ok2 s24, by omega, e8, e6⟩
        | true =>
          rw [if_pos rfl] at e12
          simp only [Option.bind_eq_some_iff] at e12
          obtain ⟨y, e13, e14⟩ := e12
          cases e14
          cases e9
          refine iteT ⟨σ', OD, y, r4.same ok3 s4, ok4, e13, fun yv H5 p5 => ⟨acc, p5.same _ _ (s24 _ _ hD), ?_, ?_⟩⟩
          · exact Nat.lt_of_le_of_lt hl (Nat.lt_of_lt_of_le hlt hlen)
          · have ok5 := ok4.same p5.same
            have ev : Evo H5 OD (upd H5 Dd (.lst (acc ++ [yv]))) OD := fun b x eb nb => ⟨by rw [upd_ne fun z => nb (.inr z)]; exact eb, nb⟩
            refine ⟨acc ++ [yv], accD ++ [y], rest', upd_same, fun p hp => ?_, fun b x eb => ?_, ?_, by rw [List.length_append]; simpa using hl, e8, by rw [← e6]; simp⟩
            · by_cases z : p = Dd
              · subst z; exact .inl ⟨_, upd_same⟩
              · rw [upd_ne z]; exact ok5 p hp
            · rw [upd_ne (ne_of_none eb nD)]
              exact p5.same _ _ (s14 _ _ eb)
            · have y1 : RA K H5 OD acc accD := (ra.same ok2 s24).same ok4 p5.same
              exact (y1.append (.cons (p5.r hst) .nil)).evo ok5 ev
    · have ei : i = its.length := by omega
      subst ei
      refine .inl ⟨g2 (Nat.le_refl _), q _ _ ?_⟩
      rw [List.drop_length] at e5
      cases e5
      rw [List.append_nil] at e6
      subst e6
      have nO : ¬ O Dd := fun z => ok1.some z nD
      exact .of (s1.trans s2) (.lst hD nO (ra.less ok2 fun p z => .inl z)) fun _ => ⟨Dd, acc, rfl, s1.free nD, hD, ra⟩
theorem g_comp {elt cnd : E} {tg : Tg} {s : Src} {src : Es} (hE : ∀ e, src = .cons e .nil → HasE L C T k N ow e) (hs : HasEs L C T k N ow src) (helt : HasE L C T k N ow elt) (hc : HasT L C T k N ow cnd)
    (c : Ctx L T C k X) (hN : X.N = N) (hsc : X.env.scope = sc) (h : isE L N ow sc (.comp elt tg s src cnd) pe = true) : PE X pe (rdE X.K C ow L.fr (.comp elt tg s src cnd)) ∧
    (∀ (i : Nat) (y : Str) (py spos : Pos), X.N[i]? = some y → X.env.scope.names.lookup y = some .local → swapsWith pe (some (.Name y py)) spos.line X.env = pure true → PS X (.Assign [.Name y py] pe spos) (tAsg (rdE X.K C ow L.fr (.comp elt tg s src cnd)) (gName i))) := by
  unfold isE at h
  split at h
  · rename_i y t it ifs scope pos
    simp only [Bool.and_eq_true, decide_eq_true_eq] at h
    obtain ⟨⟨⟨⟨⟨⟨h1, h2⟩, h3⟩, h4⟩, h5⟩, h6⟩, h7⟩ := h
    have h2 := src_of L N ow (by rw [Bool.and_eq_true]; exact h2)
    obtain ⟨hi, hf⟩ := g_src (tg := t) rfl hE hs c hN hsc h2
    have hb : BlkOk X.N X.env.scope scope (ownOf N tg) := by rw [hN, hsc]; exact blkOk_by h6
    have hG : ∀ (s : Shared) (H : Hp) (Ca : Addr) (cl : List (Str × Addr)) (fp : List Addr), PG (X.blk s H scope (compEnvC scope cl Ca X.env) fp) t (rdG X.K ow tg) := fun s H Ca cl fp => by
      refine s_tg (X := X.blk s H scope (compEnvC scope cl Ca X.env) fp) c.calm c.nd hN (tsc := scope) (fun x hx => ?_) tg t h1
      have := loc_blk (sc := X.env.scope) hx
      exact this
    have hT : ∀ (s : Shared) (H : Hp) (Ca : Addr) (cl : List (Str × Addr)) (fp : List Addr), PTs (X.blk s H scope (compEnvC scope cl Ca X.env) fp) ifs (rdC X.K C ow cnd) := fun s H Ca cl fp => by
      split at h5
      · refine ⟨fun pins s' σV H' Q I z => pts_nil.run pins s' σV H' Q I ?_⟩
        obtain ⟨σ, O, b, r, ok, e, q⟩ := z
        rw [h5] at e
        cases e
        exact q H' (Same.refl _)
      · simp only [Bool.and_eq_true, Bool.not_eq_true'] at h5
        have pt := hc (X.blk s H scope (compEnvC scope cl Ca X.env) fp) (relS scope sc) _ (c.blk s H scope _ fp) hN (by rw [← hsc]; rfl) h5.2
        refine ⟨fun pins s' σV H' Q I z => (pts_one pt).run pins s' σV H' Q I ?_⟩
        obtain ⟨σ, O, b, r, ok, e, q⟩ := z
        rw [h5.1] at e
        exact ⟨σ, O, b, r, ok, tst_some e, q⟩
      · cases h5
    have hEl : ∀ (s : Shared) (H : Hp) (Ca : Addr) (cl : List (Str × Addr)) (fp : List Addr), PE (X.blk s H scope (compEnvC scope cl Ca X.env) fp) y (rdE X.K C ow L.fr elt) := fun s H Ca cl fp =>
      helt (X.blk s H scope (compEnvC scope cl Ca X.env) fp) (relS scope sc) _ (c.blk s H scope _ fp) hN (by rw [← hsc]; rfl) h4
    have key := pe_lc (pos := pos) c.calm c.nd hi hb hG hT hEl (hf _)
    rw [own_map] at key
    refine ⟨key.imp fun σV H Q z => lc_read h3 z, fun i yy py spos e1 e2 e3 => ?_⟩
    have key2 := ps_setLc (pos := pos) (spos := spos) (py := py) c.calm c.nd e1 e2 e3 hi hb hG hT hEl (hf _)
    rw [own_map] at key2
    exact ⟨fun pins s σV H D I z => key2.run pins s σV H D I (by exact lc_read h3 z)⟩
  · cases h

/-- the reading of a comprehension with two fors -/
theorem lc_read2 {K : PySem.W.Frag} {elt : E} {t1 t2 : Tg} {s1 s2 : Src} {src1 src2 : Es} {σV : L2.St} {H : Hp} {Q : VK} (hst : strong ow elt = true) (hs2 : strongs ow src2 = true)
    (hto : ∀ j ∈ tgOwn t1, j ∉ ow) (h : rdE K C ow L.fr (.comp2 elt t1 s1 src1 t2 s2 src2) σV H Q) : tLc2 (rdI K C ow s1 src1) (rdG K ow t1) tYes (rdI K C ow s2 src2) (rdG K ow t2) tYes (rdE K C ow L.fr elt) (tgOwn t1 ++ tgOwn t2) (tgOwn t2) σV H Q := by
  obtain ⟨σ, O, d, r, ok, e, q⟩ := h
  simp only [evE, Option.bind_eq_some_iff] at e
  obtain ⟨ds, e1, its, e2, rs, e3, e4⟩ := e
  split at e4
  case isFalse => cases e4
  rename_i hrs
  cases e4
  let f2 : Sl → D → Option D := fun σ' e => (bindT t2 e (swipe σ' (tgOwn t2))).bind fun σ'' => evE C elt σ''
  let f1 : D → Option (List D) := fun d => (bindT t1 d (swipe σ (tgOwn t1 ++ tgOwn t2))).bind fun σ' => (evEs C src2 σ').bind fun es => (itemsOf s2 es).bind fun jts => mapGo (f2 σ') jts
  have e3 : catGo f1 its = some rs := e3
  refine ⟨σ, O, ds, its, r, ok, e1, e2, fun J H1 sm1 hlen iw _ => fun Dd nD => ?_⟩
  have ok1 := ok.same sm1
  let OD : AS := fun b => O b ∨ b = Dd
  refine ⟨fun i m H2 => m = its.length - i ∧ i ≤ its.length ∧ ∃ acc accD rest, H2 Dd = some (.lst acc) ∧ OOk H2 OD ∧ Same H1 H2 ∧ RA K H2 OD acc accD ∧ catGo f1 (its.drop i) = some rest ∧ accD ++ rest = rs,
    ⟨its.length, by simp, Nat.zero_le _, [], [], rs, upd_same, ?_, same_upd nD, .nil, by simpa using e3, rfl⟩, ?_⟩
  · intro p hp
    rcases hp with hp | rfl
    · have ne : p ≠ Dd := fun z => ok1.some (z ▸ hp) nD
      rw [upd_ne ne]
      exact ok1 p hp
    · exact .inl ⟨[], upd_same⟩
  · rintro i m H2 ⟨rfl, hi, acc, accD, rest, hD, ok2, sm2, ra, e5, e6⟩
    have nold : ∀ b, H1 b ≠ none → OD b → O b := fun b hb z => z.elim id fun z => absurd (z ▸ nD) hb
    obtain ⟨g1, g2, g3⟩ := iw H2 OD ok2 sm2 nold i
    by_cases hlt : i < its.length
    · refine .inr ⟨g1 hlt, fun H' => ∃ acc accD rest, H' Dd = some (.lst acc) ∧ OOk H' OD ∧ Same H1 H' ∧ RA K H' OD acc accD ∧ catGo f1 (its.drop (i + 1)) = some rest ∧ accD ++ rest = rs,
        fun H' z => ⟨its.length - (i + 1), by omega, rfl, hlt, z⟩, fun x H3 hy => ?_⟩
      obtain ⟨sm3, rx⟩ := g3 x H3 _ (List.getElem?_eq_getElem hlt) hy
      rw [List.drop_eq_getElem_cons hlt] at e5
      simp only [catGo, Option.bind_eq_some_iff] at e5
      obtain ⟨o, e7, rest', e8, e9⟩ := e5
      cases e9
      have e7 : ((bindT t1 its[i] (swipe σ (tgOwn t1 ++ tgOwn t2))).bind fun σ' => (evEs C src2 σ').bind fun es => (itemsOf s2 es).bind fun jts => mapGo (f2 σ') jts) = some o := e7
      simp only [Option.bind_eq_some_iff] at e7
      obtain ⟨σ', e10, es, e11, jts, e12, e13⟩ := e7
      have ok3 := ok2.same sm3
      have s13 := sm2.trans sm3
      have r3 : SRel K H3 OD ow (L2.wipe σV (tgOwn t1 ++ tgOwn t2)) (swipe σ (tgOwn t1 ++ tgOwn t2)) := ((r.same ok sm1).more ok1 s13 nold fun b z => .inl z).wipe _
      refine ⟨_, OD, _, σ', r3, ok3, rx, e10, fun σV2 r4 l4 k4 => ⟨?_, ?_⟩⟩
      · refine wipe_eq ?_ fun j hj => ?_
        · rw [l4, L2.wipe_length]
        · have hj1 : j ∉ tgOwn t1 := fun z => hj (List.mem_append_left _ z)
          rw [k4 j hj1, L2.wipe_out hj]
      simp only [tYes, if_true, ↓reduceIte]
      refine ⟨σ', OD, es, jts, r4, ok3, e11, e12, fun J1 H4 sm4 hlen1 _ is => ?_⟩
      have is := is hs2
      have ok4 := ok3.same sm4
      have s14 := s13.trans sm4
      have s24 := sm3.trans sm4
      refine ⟨fun j k H5 => k = jts.length - j ∧ j ≤ jts.length ∧ ∃ acc' accD' rest2, H5 Dd = some (.lst acc') ∧ OOk H5 OD ∧ Same H1 H5 ∧ Keep (fun b => b = Dd) H4 H5 ∧ RA K H5 OD acc' accD' ∧ mapGo (f2 σ') (jts.drop j) = some rest2 ∧ accD' ++ rest2 = accD ++ o,
        ⟨jts.length, by simp, Nat.zero_le _, acc, accD, o, s24 _ _ hD, ok4, s14, (fun b x e _ => e), ra.same ok2 s24, by simpa using e13, rfl⟩, ?_⟩
      rintro j k H5 ⟨rfl, hj, acc', accD', rest2, hD5, ok5, s15, kp5, ra5, e14, e15⟩
      have evk : ∀ {Hx : Hp}, Keep (fun b => b = Dd) H4 Hx → Evo H4 OD Hx OD := fun {Hx} kp b x e n => ⟨kp b x e fun z => n (.inr z), n⟩
      obtain ⟨b1, b2, b3⟩ := is H5 OD ok5 (evk kp5) j
      by_cases hjt : j < jts.length
      · refine .inr ⟨b1 hjt, fun H' => ∃ acc' accD' rest2, H' Dd = some (.lst acc') ∧ OOk H' OD ∧ Same H1 H' ∧ Keep (fun b => b = Dd) H4 H' ∧ RA K H' OD acc' accD' ∧ mapGo (f2 σ') (jts.drop (j + 1)) = some rest2 ∧ accD' ++ rest2 = accD ++ o,
          fun H' z => ⟨jts.length - (j + 1), by omega, rfl, hjt, z⟩, fun x2 H6 hy2 => ?_⟩
        obtain ⟨sm6, rx2⟩ := b3 x2 H6 _ (List.getElem?_eq_getElem hjt) hy2
        rw [List.drop_eq_getElem_cons hjt] at e14
        simp only [mapGo, Option.bind_eq_some_iff] at e14
        obtain ⟨y, e16, rest3, e17, e18⟩ := e14
        cases e18
        have e16 : ((bindT t2 jts[j] (swipe σ' (tgOwn t2))).bind fun σ'' => evE C elt σ'') = some y := e16
        simp only [Option.bind_eq_some_iff] at e16
        obtain ⟨σ2, e19, e20⟩ := e16
        have ok6 := ok5.same sm6
        have s16 := s15.trans sm6
        have kp6 : Keep (fun b => b = Dd) H4 H6 := fun b x e n => sm6 _ _ (kp5 b x e n)
        have base : SRel K H6 OD ow σV σ := (r.same ok sm1).more ok1 s16 nold fun b z => .inl z
        have back : ∀ {l : Nat} {d' : D}, l ∈ ow → sget σ' l = some d' → sget σ l = some d' ∧ σV2[l]? = σV[l]? := fun {l d'} hl g => by
          have n1 : l ∉ tgOwn t1 := fun z => hto l z hl
          rw [bind_out t1 _ _ σ' e10 l n1] at g
          obtain ⟨g1, g2⟩ := swipe_get g
          exact ⟨g1, by rw [k4 l n1, L2.wipe_out g2]⟩
        have r6' : SRel K H6 OD ow σV2 σ' := by
          refine ⟨r4.len, fun l d' g => ?_, fun a b d1 d2 p n h1 h2 x1 x2 y1 y2 => ?_⟩
          · obtain ⟨v, a1, a2, a3⟩ := r4.slot l d' g
            refine ⟨v, a1, fun z => ((a2 z).same ok3 sm4).evo ok4 (evk kp6), fun z => ?_⟩
            obtain ⟨w1, w2⟩ := back z g
            obtain ⟨v', b1, _, b3⟩ := base.slot l d' w1
            rw [w2, b1] at a1
            cases a1
            exact b3 z
          · obtain ⟨u1, u2⟩ := back h1 x1
            obtain ⟨u3, u4⟩ := back h2 x2
            exact base.apart a b d1 d2 p n h1 h2 u1 u3 (u2 ▸ y1) (u4 ▸ y2)
        have r6 := r6'.wipe (tgOwn t2)
        refine ⟨_, OD, _, σ2, r6, ok6, rx2, e19, fun σV3 r7 l7 k7 => ⟨?_, ?_⟩⟩
        · refine wipe_eq ?_ fun l hl => ?_
          · rw [l7, L2.wipe_length]
          · rw [k7 l hl, L2.wipe_out hl]
        simp only [tYes, ↓reduceIte]
        refine ⟨σ2, OD, y, r7, ok6, e20, fun yv H7 p7 => ⟨acc', p7.same _ _ (sm6 _ _ hD5), ?_, ?_⟩⟩
        · have l1 : accD'.length + 1 ≤ rs.length := by
            have z := congrArg List.length e15
            have z2 := congrArg List.length e6
            simp only [List.length_append, List.length_cons] at z z2
            omega
          rw [ra5.length]
          exact lim_lt (by omega)
        · have ok7 := ok6.same p7.same
          have ev : Evo H7 OD (upd H7 Dd (.lst (acc' ++ [yv]))) OD := fun b x eb nb => ⟨by rw [upd_ne fun z => nb (.inr z)]; exact eb, nb⟩
          refine ⟨acc' ++ [yv], accD' ++ [y], rest3, upd_same, fun p hp => ?_, fun b x eb => ?_, fun b x eb nb => ?_, ?_, e17, by rw [← e15]; simp⟩
          · by_cases z : p = Dd
            · subst z; exact .inl ⟨_, upd_same⟩
            · rw [upd_ne z]; exact ok7 p hp
          · rw [upd_ne (ne_of_none eb nD)]
            exact p7.same _ _ (s16 _ _ eb)
          · rw [upd_ne nb]
            exact p7.same _ _ (kp6 _ _ eb nb)
          · have y1 : RA K H7 OD acc' accD' := (ra5.same ok5 sm6).same ok6 p7.same
            exact (y1.append (.cons (p7.r hst) .nil)).evo ok7 ev
      · have ej : j = jts.length := by omega
        subst ej
        rw [List.drop_length] at e14
        cases e14
        rw [List.append_nil] at e15
        exact .inl ⟨b2 (Nat.le_refl _), acc', accD', rest', hD5, ok5, s15, ra5, e8, by rw [e15, List.append_assoc]; exact e6⟩
    · have ei : i = its.length := by omega
      subst ei
      refine .inl ⟨g2 (Nat.le_refl _), q _ _ ?_⟩
      rw [List.drop_length] at e5
      cases e5
      rw [List.append_nil] at e6
      subst e6
      have nO : ¬ O Dd := fun z => ok1.some z nD
      exact .of (sm1.trans sm2) (.lst hD nO (ra.less ok2 fun p z => .inl z)) fun _ => ⟨Dd, acc, rfl, sm1.free nD, hD, ra⟩
theorem g_comp2 {elt : E} {t1 t2 : Tg} {s1 s2 : Src} {src1 src2 : Es} (hE1 : ∀ e, src1 = .cons e .nil → HasE L C T k N ow e) (hs1 : HasEs L C T k N ow src1) (hE2 : ∀ e, src2 = .cons e .nil → HasE L C T k N ow e) (hs2 : HasEs L C T k N ow src2) (helt : HasE L C T k N ow elt)
    (c : Ctx L T C k X) (hN : X.N = N) (hsc : X.env.scope = sc) (h : isE L N ow sc (.comp2 elt t1 s1 src1 t2 s2 src2) pe = true) : PE X pe (rdE X.K C ow L.fr (.comp2 elt t1 s1 src1 t2 s2 src2)) ∧
    (∀ (i : Nat) (y : Str) (py spos : Pos), X.N[i]? = some y → X.env.scope.names.lookup y = some .local → swapsWith pe (some (.Name y py)) spos.line X.env = pure true → PS X (.Assign [.Name y py] pe spos) (tAsg (rdE X.K C ow L.fr (.comp2 elt t1 s1 src1 t2 s2 src2)) (gName i))) := by
  unfold isE at h
  split at h
  · rename_i y g1 i1 g2 i2 scope pos
    simp only [Bool.and_eq_true] at h
    obtain ⟨⟨⟨⟨⟨⟨⟨h1, h2⟩, h3⟩, h4⟩, h5⟩, h6⟩, h7⟩, h8⟩ := h
    have h2 := src_of L N ow (by rw [Bool.and_eq_true]; exact h2)
    have h4 := src_of L N ow (by rw [Bool.and_eq_true]; exact h4)
    obtain ⟨hi, hf⟩ := g_src (tg := g1) rfl hE1 hs1 c hN hsc h2
    have om : (ownOf N t1 ++ ownOf N t2).map (·.2) = tgOwn t1 ++ tgOwn t2 := by rw [List.map_append, own_map, own_map]
    have hb : BlkOk X.N X.env.scope scope (ownOf N t1 ++ ownOf N t2) := by rw [hN, hsc]; exact blkOk_by h8
    have hv : ∀ i ∈ tgOwn t2, i ∈ (ownOf N t1 ++ ownOf N t2).map (·.2) := fun i hi => by rw [om]; exact List.mem_append_right _ hi
    have hG : ∀ (t : Tg) (g : PySem.Expr), isTg scope N ow t g = true → ∀ (s : Shared) (H : Hp) (Ca : Addr) (cl : List (Str × Addr)) (fp : List Addr), PG (X.blk s H scope (compEnvC scope cl Ca X.env) fp) g (rdG X.K ow t) := fun t g hg s H Ca cl fp =>
      s_tg (X := X.blk s H scope (compEnvC scope cl Ca X.env) fp) c.calm c.nd hN (tsc := scope) (fun x hx => loc_blk (sc := X.env.scope) hx) t g hg
    have hs2' : ∀ (s : Shared) (H : Hp) (Ca : Addr) (cl : List (Str × Addr)) (fp : List Addr), PI (X.blk s H scope (compEnvC scope cl Ca X.env) fp) g2 i2 (rdI X.K C ow s2 src2) := fun s H Ca cl fp =>
      (g_src (X := X.blk s H scope (compEnvC scope cl Ca X.env) fp) (sc := relS scope sc) (tg := g2) rfl hE2 hs2 (c.blk s H scope _ fp) hN (by rw [← hsc]; rfl) h4).1
    have hf2 : ∀ env x, foldedSetIterable i2 env x = pure x := (g_src (X := X.blk X.s_0 (fun _ => none) scope (compEnvC scope [] 0 X.env) []) (sc := relS scope sc) (tg := g2) rfl hE2 hs2 (c.blk _ _ scope _ []) hN (by rw [← hsc]; rfl) h4).2
    have hEl : ∀ (s : Shared) (H : Hp) (Ca : Addr) (cl : List (Str × Addr)) (fp : List Addr), PE (X.blk s H scope (compEnvC scope cl Ca X.env) fp) y (rdE X.K C ow L.fr elt) := fun s H Ca cl fp =>
      helt (X.blk s H scope (compEnvC scope cl Ca X.env) fp) (relS scope sc) _ (c.blk s H scope _ fp) hN (by rw [← hsc]; rfl) h7
    have key := pe_lc2 (pos := pos) c.calm c.nd hi hb hv (hG t1 g1 h1) (fun _ _ _ _ _ => pts_nil) hs2' (hG t2 g2 h3) (fun _ _ _ _ _ => pts_nil) hEl (hf _) hf2
    rw [om] at key
    refine ⟨key.imp fun σV H Q z => lc_read2 h6 h5 (tg_own t1 g1 h1) z, fun i yy py spos e1 e2 e3 => ?_⟩
    have key2 := ps_setLc2 (pos := pos) (spos := spos) (py := py) c.calm c.nd e1 e2 e3 hi hb hv (hG t1 g1 h1) (fun _ _ _ _ _ => pts_nil) hs2' (hG t2 g2 h3) (fun _ _ _ _ _ => pts_nil) hEl (hf _) hf2
    rw [om] at key2
    exact ⟨fun pins s σV H D I z => key2.run pins s σV H D I (by exact lc_read2 h6 h5 (tg_own t1 g1 h1) z)⟩
  · cases h
/-- a row of and, or -/
theorem g_bool {e : E} {es : Es} (he : HasE L C T k N ow e) (ht : HasT L C T k N ow e)
    (ih : ∀ (X : Cx) (sc : Scope) (xs : List PySem.Expr) (pos : Pos), Ctx L T C k X → X.N = N → X.env.scope = sc → isEs L N ow sc es xs = true → xs ≠ [] →
      (PE X (.BoolOp .And xs pos) (rdE X.K C ow L.fr (.and es)) ∧ PE X (.BoolOp .Or xs pos) (rdE X.K C ow L.fr (.or es)) ∧ PW X (.BoolOp .And xs pos) (rdT X.K C ow (.and es)) ∧ PW X (.BoolOp .Or xs pos) (rdT X.K C ow (.or es)))) :
    ∀ (X : Cx) (sc : Scope) (xs : List PySem.Expr) (pos : Pos), Ctx L T C k X → X.N = N → X.env.scope = sc → isEs L N ow sc (.cons e es) xs = true →
      (PE X (.BoolOp .And xs pos) (rdE X.K C ow L.fr (.and (.cons e es))) ∧ PE X (.BoolOp .Or xs pos) (rdE X.K C ow L.fr (.or (.cons e es))) ∧ PW X (.BoolOp .And xs pos) (rdT X.K C ow (.and (.cons e es))) ∧ PW X (.BoolOp .Or xs pos) (rdT X.K C ow (.or (.cons e es)))) := by
  intro X sc xs pos c hN hsc h
  unfold isEs at h
  split at h
  · rename_i x xs
    simp only [Bool.and_eq_true] at h
    obtain ⟨⟨h1, h2⟩, h3⟩ := h
    have pe := he X sc x c hN hsc h2
    have pt := ht X sc x c hN hsc h2
    cases es with
    | nil =>
      cases xs with
      | cons => simp [isEs] at h3
      | nil =>
        refine ⟨(pe_one pe).imp ?_, (pe_one pe).imp ?_, (pw_and1 pt).imp fun _ _ _ z => z, (pw_or1 pt).imp fun _ _ _ z => z⟩
        · rintro σV H Q ⟨σ, O, d, r, ok, e1, q⟩
          exact ⟨σ, O, d, r, ok, e1, fun v H' p => q v H' ⟨p.same, p.wr, fun z => p.r (by simp only [strong, strongs, Bool.and_eq_true] at z; exact z.1), (fun z => nomatch z)⟩⟩
        · rintro σV H Q ⟨σ, O, d, r, ok, e1, q⟩
          exact ⟨σ, O, d, r, ok, e1, fun v H' p => q v H' ⟨p.same, p.wr, fun z => p.r (by simp only [strong, strongs, Bool.and_eq_true] at z; exact z.1), (fun z => nomatch z)⟩⟩
    | cons e2 es =>
      cases xs with
      | nil => simp [isEs] at h3
      | cons x2 xs =>
        obtain ⟨i1, i2, i3, i4⟩ := ih X sc (x2 :: xs) pos c hN hsc h3 (by simp)
        refine ⟨(pe_and pe i1).imp ?_, (pe_or pe i2).imp ?_, (pw_and pt i3).imp ?_, (pw_or pt i4).imp ?_⟩
        · rintro σV H Q ⟨σ, O, d, r, ok, e1, q⟩
          simp only [evE, evAnd, Option.bind_eq_some_iff] at e1
          obtain ⟨b, e1, e3⟩ := e1
          refine ⟨σ, O, _, r, ok, tst_some e1, fun v H' p => ⟨b, p.wr.bool, ?_⟩⟩
          cases b with
          | true => exact iteT ⟨σ, O, d, r.same ok p.same, ok.same p.same, by simpa [evE] using e3, fun v H2 p2 => q v H2 (Post.back p.same ⟨p2.same, p2.wr, fun z => p2.r (by simp only [strong, strongs, Bool.and_eq_true] at z ⊢; exact z.2), (fun z => nomatch z)⟩)⟩
          | false => cases e3; exact iteF (q _ _ (Post.back p.same (.bl _)))
        · rintro σV H Q ⟨σ, O, d, r, ok, e1, q⟩
          simp only [evE, evOr, Option.bind_eq_some_iff] at e1
          obtain ⟨b, e1, e3⟩ := e1
          refine ⟨σ, O, _, r, ok, tst_some e1, fun v H' p => ⟨b, p.wr.bool, ?_⟩⟩
          cases b with
          | false => exact iteF ⟨σ, O, d, r.same ok p.same, ok.same p.same, by simpa [evE] using e3, fun v H2 p2 => q v H2 (Post.back p.same ⟨p2.same, p2.wr, fun z => p2.r (by simp only [strong, strongs, Bool.and_eq_true] at z ⊢; exact z.2), (fun z => nomatch z)⟩)⟩
          | true => cases e3; exact iteT (q _ _ (Post.back p.same (.bl _)))
        · rintro σV H Q ⟨σ, O, d, r, ok, e1, q⟩
          simp only [evE, evAnd, Option.bind_eq_some_iff] at e1
          obtain ⟨b, e1, e3⟩ := e1
          refine ⟨σ, O, b, r, ok, tst_some e1, fun H' p => ?_⟩
          cases b with
          | true => exact iteT ⟨σ, O, d, r.same ok p, ok.same p, by simpa [evE] using e3, fun H2 p2 => q H2 (p.trans p2)⟩
          | false => cases e3; exact iteF (q _ p)
        · rintro σV H Q ⟨σ, O, d, r, ok, e1, q⟩
          simp only [evE, evOr, Option.bind_eq_some_iff] at e1
          obtain ⟨b, e1, e3⟩ := e1
          refine ⟨σ, O, b, r, ok, tst_some e1, fun H' p => ?_⟩
          cases b with
          | false => exact iteF ⟨σ, O, d, r.same ok p, ok.same p, by simpa [evE] using e3, fun H2 p2 => q H2 (p.trans p2)⟩
          | true => cases e3; exact iteT (q _ p)
  · cases h

/-! ### the induction -/
def AllB (L : Lk) (C : Nat → List D → Option D) (T : Nat → Option Fn) (k : Nat) (N : List Str) (ow : List Nat) (es : Es) : Prop :=
  ∀ (X : Cx) (sc : Scope) (xs : List PySem.Expr) (pos : Pos), Ctx L T C k X → X.N = N → X.env.scope = sc → isEs L N ow sc es xs = true → xs ≠ [] →
      (PE X (.BoolOp .And xs pos) (rdE X.K C ow L.fr (.and es)) ∧ PE X (.BoolOp .Or xs pos) (rdE X.K C ow L.fr (.or es)) ∧ PW X (.BoolOp .And xs pos) (rdT X.K C ow (.and es)) ∧ PW X (.BoolOp .Or xs pos) (rdT X.K C ow (.or es)))
theorem t_of {e : E} (he : HasE L C T k N ow e) (hp : ∀ (sc : Scope) (pe : PySem.Expr), isE L N ow sc e pe = true → ∀ env whole, isTrue pe env whole = (do let v ← whole; standAt pe.pos; holding [v] (truthy v))) : HasT L C T k N ow e :=
  fun X sc pe c hN hsc h => pt_of (he X sc pe c hN hsc h) (hp sc pe h X.env)
mutual
theorem allE : ∀ (e : E), HasE L C T k N ow e ∧ HasT L C T k N ow e
  | .var i => by
    have he : HasE L C T k N ow (.var i) := fun X sc pe c hN hsc h => s_var hN hsc h
    exact ⟨he, t_of he fun sc pe h env whole => by cases pe <;> first | rfl | simp [isE] at h⟩
  | .non => by
    have he : HasE L C T k N ow .non := fun X sc pe c hN hsc h => by
      unfold isE at h
      split at h
      · exact s_con pe_non (fun _ => rfl) (fun _ _ => .non) rfl
      · cases h
    exact ⟨he, t_of he fun sc pe h env whole => by cases pe <;> first | rfl | simp [isE] at h⟩
  | .bl b => by
    have he : HasE L C T k N ow (.bl b) := fun X sc pe c hN hsc h => by
      unfold isE at h
      split at h
      · have := eq_of_beq h
        subst this
        exact s_con pe_bl (fun _ => rfl) (fun _ _ => .bl _) rfl
      · cases h
    exact ⟨he, t_of he fun sc pe h env whole => by cases pe <;> first | rfl | simp [isE] at h⟩
  | .int i => by
    have he : HasE L C T k N ow (.int i) := fun X sc pe c hN hsc h => by
      unfold isE at h
      split at h
      · have := eq_of_beq h
        subst this
        exact s_con pe_int (fun _ => rfl) (fun _ _ => .int _) rfl
      · cases h
    exact ⟨he, t_of he fun sc pe h env whole => by cases pe <;> first | rfl | simp [isE] at h⟩
  | .str x => by
    have he : HasE L C T k N ow (.str x) := fun X sc pe c hN hsc h => by
      unfold isE at h
      split at h
      · have := eq_of_beq h
        subst this
        exact s_con pe_str (fun _ => rfl) (fun _ _ => .str _) rfl
      · cases h
    exact ⟨he, t_of he fun sc pe h env whole => by cases pe <;> first | rfl | simp [isE] at h⟩
  | .glob g => by
    have he : HasE L C T k N ow (.glob g) := fun X sc pe c hN hsc h => s_glob c hsc h
    exact ⟨he, t_of he fun sc pe h env whole => by cases pe <;> first | rfl | simp [isE] at h⟩
  | .tup es => by
    have he : HasE L C T k N ow (.tup es) := fun X sc pe c hN hsc h => g_tup (allEs es).1 c hN hsc h
    exact ⟨he, t_of he fun sc pe h env whole => by cases pe <;> first | rfl | simp [isE] at h⟩
  | .lst es => by
    have he : HasE L C T k N ow (.lst es) := fun X sc pe c hN hsc h => g_lst (allEs es).1 c hN hsc h
    exact ⟨he, t_of he fun sc pe h env whole => by cases pe <;> first | rfl | simp [isE] at h⟩
  | .edic t => by
    have he : HasE L C T k N ow (.edic t) := fun X sc pe c hN hsc h => g_edic h
    exact ⟨he, t_of he fun sc pe h env whole => by cases pe <;> first | rfl | simp [isE] at h⟩
  | .bin o a b => by
    have he : HasE L C T k N ow (.bin o a b) := fun X sc pe c hN hsc h => g_bin (allE a).1 (allE b).1 c hN hsc h
    exact ⟨he, t_of he fun sc pe h env whole => by cases pe <;> first | rfl | simp [isE] at h⟩
  | .neg a => by
    have he : HasE L C T k N ow (.neg a) := fun X sc pe c hN hsc h => g_neg (allE a).1 c hN hsc h
    exact ⟨he, t_of he fun sc pe h env whole => by
      cases pe <;> first | rfl | simp [isE] at h | skip
      rename_i o _ _
      cases o <;> first | rfl | simp [isE] at h⟩
  | .not a => ⟨fun X sc pe c hN hsc h => g_not (allE a).1 c hN hsc h, fun X sc pe c hN hsc h => g_notT (allE a).2 c hN hsc h⟩
  | .and es => by
    constructor
    · intro X sc pe c hN hsc h
      unfold isE at h
      split at h
      · rename_i xs pos
        by_cases z : xs = []
        · subst z
          cases es with
          | nil => exact ⟨fun pins s σV H Q I ⟨σ, O, d, r, ok, e, q⟩ => by simp [evE, evAnd] at e⟩
          | cons => simp [isEs] at h
        · exact ((allEs es).2.2 X sc xs pos c hN hsc h z).1
      · cases h
    · intro X sc pe c hN hsc h
      unfold isE at h
      split at h
      · rename_i xs pos
        by_cases z : xs = []
        · subst z
          cases es with
          | nil => exact ⟨fun pins s σV H Q I ⟨σ, O, d, r, ok, e, q⟩ => by simp [evE, evAnd] at e⟩
          | cons => simp [isEs] at h
        · exact (((allEs es).2.2 X sc xs pos c hN hsc h z).2.2.1).pt
      · cases h
  | .or es => by
    constructor
    · intro X sc pe c hN hsc h
      unfold isE at h
      split at h
      · rename_i xs pos
        by_cases z : xs = []
        · subst z
          cases es with
          | nil => exact ⟨fun pins s σV H Q I ⟨σ, O, d, r, ok, e, q⟩ => by simp [evE, evOr] at e⟩
          | cons => simp [isEs] at h
        · exact ((allEs es).2.2 X sc xs pos c hN hsc h z).2.1
      · cases h
    · intro X sc pe c hN hsc h
      unfold isE at h
      split at h
      · rename_i xs pos
        by_cases z : xs = []
        · subst z
          cases es with
          | nil => exact ⟨fun pins s σV H Q I ⟨σ, O, d, r, ok, e, q⟩ => by simp [evE, evOr] at e⟩
          | cons => simp [isEs] at h
        · exact (((allEs es).2.2 X sc xs pos c hN hsc h z).2.2.2).pt
      · cases h
  | .cmp o a b => ⟨fun X sc pe c hN hsc h => g_cmp (allE a).1 (allE b).1 c hN hsc h, fun X sc pe c hN hsc h => g_cmpT (allE a).1 (allE b).1 c hN hsc h⟩
  | .chain o o' a b c' => ⟨fun X sc pe c hN hsc h => (g_chain (allE a).1 (allE b).1 (allE c').1 c hN hsc h).1, fun X sc pe c hN hsc h => (g_chain (allE a).1 (allE b).1 (allE c').1 c hN hsc h).2⟩
  | .ite t a b => ⟨fun X sc pe c hN hsc h => g_ite (allE t).2 (allE a).1 (allE b).1 c hN hsc h, fun X sc pe c hN hsc h => g_iteT (allE t).2 (allE a).2 (allE b).2 c hN hsc h⟩
  | .ix a b => by
    have he : HasE L C T k N ow (.ix a b) := fun X sc pe c hN hsc h => g_ix (allE a).1 (allE b).1 c hN hsc h
    exact ⟨he, t_of he fun sc pe h env whole => by cases pe <;> first | rfl | simp [isE] at h⟩
  | .sl a lo hi => by
    have he : HasE L C T k N ow (.sl a lo hi) := fun X sc pe c hN hsc h => g_sl (allE a).1 (allE lo).1 (allE hi).1 c hN hsc h
    exact ⟨he, t_of he fun sc pe h env whole => by cases pe <;> first | rfl | simp [isE] at h⟩
  | .rev a => by
    have he : HasE L C T k N ow (.rev a) := fun X sc pe c hN hsc h => g_rev (allE a).1 c hN hsc h
    exact ⟨he, t_of he fun sc pe h env whole => by cases pe <;> first | rfl | simp [isE] at h⟩
  | .nop => ⟨fun X sc pe c hN hsc h => by simp [isE] at h, fun X sc pe c hN hsc h => by simp [isE] at h⟩
  | .call f w es => by
    have he : HasE L C T k N ow (.call f w es) := fun X sc pe c hN hsc h => g_call (allEs es).1 c hN hsc h
    exact ⟨he, t_of he fun sc pe h env whole => by cases pe <;> first | rfl | simp [isE] at h⟩
  | .blt b es => by
    have he : HasE L C T k N ow (.blt b es) := fun X sc pe c hN hsc h => g_blt (allEs es).1 c hN hsc h
    exact ⟨he, t_of he fun sc pe h env whole => by cases pe <;> first | rfl | simp [isE] at h⟩
  | .isi a t => by
    have he : HasE L C T k N ow (.isi a t) := fun X sc pe c hN hsc h => g_isi (allE a).1 c hN hsc h
    exact ⟨he, t_of he fun sc pe h env whole => by cases pe <;> first | rfl | simp [isE] at h⟩
  | .mth m o es => ⟨fun X sc pe c hN hsc h => by simp [isE] at h, fun X sc pe c hN hsc h => by simp [isE] at h⟩
  | .comp elt tg s src cnd => by
    have he : HasE L C T k N ow (.comp elt tg s src cnd) := fun X sc pe c hN hsc h => (g_comp (allEs src).2.1 (allEs src).1 (allE elt).1 (allE cnd).2 c hN hsc h).1
    exact ⟨he, t_of he fun sc pe h env whole => by cases pe <;> first | rfl | simp [isE] at h⟩
  | .comp2 elt t1 s1 src1 t2 s2 src2 => by
    have he : HasE L C T k N ow (.comp2 elt t1 s1 src1 t2 s2 src2) := fun X sc pe c hN hsc h => (g_comp2 (allEs src1).2.1 (allEs src1).1 (allEs src2).2.1 (allEs src2).1 (allE elt).1 c hN hsc h).1
    exact ⟨he, t_of he fun sc pe h env whole => by cases pe <;> first | rfl | simp [isE] at h⟩
theorem allEs : ∀ (es : Es), HasEs L C T k N ow es ∧ (∀ e, es = .cons e .nil → HasE L C T k N ow e) ∧ AllB L C T k N ow es
  | .nil => by
    refine ⟨fun X sc xs c hN hsc h => ?_, (fun e z => nomatch z), fun X sc xs pos c hN hsc h z => ?_⟩
    · cases xs with
      | nil =>
        refine pa_nil.imp ?_
        rintro σV H Q ⟨σ, O, ds, r, ok, e, q⟩
        cases e
        exact q [] H (Same.refl H) .nil fun _ => .nil
      | cons => simp [isEs] at h
    · cases xs with
      | nil => exact absurd rfl z
      | cons => simp [isEs] at h
  | .cons e es => by
    have he := (allE e).1
    have hs := (allEs es).1
    refine ⟨fun X sc xs c hN hsc h => ?_, fun e' z => by cases z; exact he, ?_⟩
    · unfold isEs at h
      split at h
      · simp only [Bool.and_eq_true] at h
        obtain ⟨⟨h1, h2⟩, h3⟩ := h
        refine (pa_cons (he X sc _ c hN hsc h2) (hs X sc _ c hN hsc h3) (star_plain h1 _ _)).imp ?_
        rintro σV H Q ⟨σ, O, ds, r, ok, e1, q⟩
        simp only [evEs, Option.bind_eq_some_iff] at e1
        obtain ⟨d, e1, ds, e2, e3⟩ := e1
        cases e3
        refine ⟨σ, O, d, r, ok, e1, fun v H1 p1 => ⟨σ, O, ds, r.same ok p1.same, ok.same p1.same, e2, fun vs H2 s2 wa ra => ?_⟩⟩
        refine q _ _ (p1.same.trans s2) (.cons (p1.wr.same (ok.same p1.same) s2) wa) fun z => ?_
        simp only [strongs, Bool.and_eq_true] at z
        exact .cons ((p1.r z.1).same (ok.same p1.same) s2) (ra z.2)
      · cases h
    · exact fun X sc xs pos c hN hsc h z => g_bool he (allE e).2 (allEs es).2.2 X sc xs pos c hN hsc h
end
end
end Ev

set_option Elab.async false
set_option linter.all false
set_option maxRecDepth 100000
set_option maxHeartbeats 4000000
/-! EvJ: statements: checks, states, readings. -/
namespace Ev
open PySem PySem.Spec PyProof.Rows L2

/-- name = [..] on one line: the model stores within the comprehension -/
def swC (sc : Scope) (x : Str) (line : Nat) : PySem.Expr → Bool
  | .ListComp _ _ s p => sc.names.lookup x == some .local && line == p.line && !(s.names.any fun (n, k) => n == x && (k == .local || k == .cell))
  | _ => false
def noComp : PySem.Expr → Bool
  | .ListComp _ _ _ _ => false
  | .SetComp _ _ _ _ => false
  | .DictComp _ _ _ _ _ => false
  | _ => true
def noTup : PySem.Expr → Bool
  | .Tuple _ _ _ => false
  | .List _ _ => false
  | _ => true
def noSl : PySem.Expr → Bool
  | .Slice _ _ _ _ => false
  | _ => true
def pline : PySem.Expr → Nat
  | .Name _ p => p.line
  | _ => 0
section
variable (L : Lk) (N : List Str) (ow : List Nat) (fr : Bool) (sc : Scope)
def nameC (i : Nat) (x : Str) : Bool := N[i]? == some x && locC sc x && noDbg x
/-- two plain names take two values -/
def parC (i j : Nat) (t v : PySem.Expr) : Bool := match t, v with
  | .Tuple [.Name x px, .Name y py] _ _, .Tuple [a, b] _ _ => nameC N sc i x && nameC N sc j y && i != j && x != y && !ow.contains i && !ow.contains j && sc.names.lookup x == some .local && sc.names.lookup y == some .local && px.line == py.line &&
      plainX a && plainX b && !(foldedForSure 8 a && foldedForSure 8 b) && !(constantsAlone 8 a && constantsAlone 8 b)
  | _, _ => false
mutual
def isS : S → Stmt → Bool
  | .asg i e, st => match st with
    | .Assign [.Name x px] v pos => nameC N sc i x && !ow.contains i && strong ow e && isE L N ow sc e v && (noComp v || swC sc x px.line v || !swC sc x px.line v)
    | _ => false
  | .asgO i e, st => match st with
    | .Assign [.Name x px] v pos => nameC N sc i x && ow.contains i && strong ow e && isFresh L.fr e && isE L N ow sc e v
    | _ => false
  | .newD i, st => match st with
    | .Assign [.Name x px] (.Dict [] [] _) pos => nameC N sc i x && ow.contains i
    | _ => false
  | .mov i j, st => match st with
    | .Assign [.Name x px] (.Name y py) pos => nameC N sc i x && nameC N sc j y && !ow.contains i && ow.contains j
    | _ => false
  | .unp t e, st => match st with
    | .Assign [tg] v pos => isTupX tg && isTg sc N ow t tg && noTup v && strong ow e && isE L N ow sc e v
    | _ => false
  | .par i j a b, st => match st with
    | .Assign [tg] v pos => parC N ow sc i j tg v && strong ow a && strong ow b && (match v with | .Tuple [x, y] _ _ => isE L N ow sc a x && isE L N ow sc b y | _ => false)
    | _ => false
  | .aug i o e, st => match st with
    | .AugAssign (.Name x _) q v pos => nameC N sc i x && !ow.contains i && decide (q = bopO o) && (o == .add || o == .sub || o == .mul) && isE L N ow sc e v
    | _ => false
  | .app i e, st => match st with
    | .Expr (.Call (.Attribute (.Name x px) m apos) [v] [] cpos) pos => nameC N sc i x && ow.contains i && m == ("append" : Str) && apos.endLine == cpos.line && strong ow e && plainX v && isE L N ow sc e v
    | _ => false
  | .appM i j, st => match st with
    | .Expr (.Call (.Attribute (.Name x px) m apos) [.Name y py] [] cpos) pos => nameC N sc i x && ow.contains i && m == ("append" : Str) && apos.endLine == cpos.line && nameC N sc j y && ow.contains j && i != j
    | _ => false
  | .ext i e, st => match st with
    | .Expr (.Call (.Attribute (.Name x px) m apos) [v] [] cpos) pos => nameC N sc i x && ow.contains i && m == ("extend" : Str) && apos.endLine == cpos.line && strong ow e && plainX v && isE L N ow sc e v
    | _ => false
  | .setL i k e, st => match st with
    | .Assign [.Subscript (.Name x px) kx _] v pos => nameC N sc i x && ow.contains i && noSl kx && strong ow e && isE L N ow sc k kx && isE L N ow sc e v
    | _ => false
  | .setD _ _ _, _ => false
  | .pop i, st => match st with
    | .Expr (.Call (.Attribute (.Name x px) m apos) [] [] cpos) pos => nameC N sc i x && ow.contains i && m == ("pop" : Str) && apos.endLine == cpos.line
    | _ => false
  | .callM f i es, st => match st with
    | .Expr (.Call (.Name x _) (.Name y _ :: xs) [] _) pos => L.fn.contains (f, x) && L.mu.contains f && glbC sc x && noDbg x && nameC N sc i y && ow.contains i && strongs ow es && isEs L N ow sc es xs
    | _ => false
  | .ifs c a b, st => match st with
    | .If x y z _ => isE L N ow sc c x && isSs a y && isSs b z
    | _ => false
  | .whl c b, st => match st with
    | .While x y [] _ => isE L N ow sc c x && isSs b y
    | _ => false
  | .for_ t s src b, st => match st with
    | .For tg it body [] _ => isTg sc N ow t tg && isSrc L N ow sc s src (isTupX tg) it && strongs ow src && isSs b body
    | _ => false
  | .ret e, st => match st with
    | .Return (some v) _ => isE L N [] sc e v && (!fr || isFresh L.fr e || (match e with | .var i => ow.contains i | _ => false))
    | _ => false
  | .brk, st => match st with
    | .Break _ => true
    | _ => false
  | .cnt, st => match st with
    | .Continue _ => true
    | _ => false
  | .pass, st => match st with
    | .Pass _ => true
    | _ => false
  | .stuck, _ => true
def isSs : Ss → List Stmt → Bool
  | .nil, xs => match xs with
    | [] => true
    | _ => false
  | .cons s ss, xs => match xs with
    | x :: xs => isS s x && isSs ss xs
    | _ => false
end
end

/-- a def's body running: H0 its entry, M what it may change of that, Oc what its caller owns -/
structure SI (K : PySem.W.Frag) (H0 : Hp) (M Oc : AS) (ow : List Nat) (σV : L2.St) (σ : Sl) (H : Hp) (O : AS) : Prop where
  rel : SRel K H O ow σV σ
  ok : OOk H O
  kept : Keep M H0 H
  own : ∀ j p d, j ∈ ow → sget σ j = some d → σV[j]? = some (some (V.ref p)) → H0 p = none ∨ M p
  okc : OOk H0 Oc
  oc : ∀ p, Oc p → O p
def Fin (K : PySem.W.Frag) (H0 : Hp) (M Oc : AS) (ow : List Nat) (fr : Bool) (H : Hp) (O : AS) (E : Ends) : Out → Prop
  | .nx σ' => ∀ σV' H' O', SI K H0 M Oc ow σV' σ' H' O' → Evo H O H' O' → E.nx σV' H'
  | .bk σ' => ∀ σV' H' O', SI K H0 M Oc ow σV' σ' H' O' → Evo H O H' O' → E.bk σV' H'
  | .ct σ' => ∀ σV' H' O', SI K H0 M Oc ow σV' σ' H' O' → Evo H O H' O' → E.ct σV' H'
  | .ret d => ∀ v H', Keep M H0 H' → ((∀ p, ¬ M p) → R K H' Oc v d ∧ (fr = true → Fr K H0 Oc v H' d)) → E.rt v H'
def rdS (K : PySem.W.Frag) (C : Nat → List D → Option D) (NN : Nat) (H0 : Hp) (M Oc : AS) (ow : List Nat) (fr : Bool) (s : S) : TS := fun E σV H => ∃ σ O o, SI K H0 M Oc ow σV σ H O ∧ evS C NN s σ = some o ∧ Fin K H0 M Oc ow fr H O E o
def rdSs (K : PySem.W.Frag) (C : Nat → List D → Option D) (NN : Nat) (H0 : Hp) (M Oc : AS) (ow : List Nat) (fr : Bool) (s : Ss) : TS := fun E σV H => ∃ σ O o, SI K H0 M Oc ow σV σ H O ∧ evSs C NN s σ = some o ∧ Fin K H0 M Oc ow fr H O E o
theorem _root_.L2.PS.imp {X : Cx} {e : Stmt} {t t' : TS} (h : PS X e t) (i : ∀ E σ H, t' E σ H → t E σ H) : PS X e t' := ⟨fun pins s σ H E I q => h.run pins s σ H E I (i E σ H q)⟩
theorem _root_.L2.PSs.imp {X : Cx} {e : List Stmt} {t t' : TS} (h : PSs X e t) (i : ∀ E σ H, t' E σ H → t E σ H) : PSs X e t' := ⟨fun pins s σ H E I q => h.run pins s σ H E I (i E σ H q)⟩

section
variable {K : PySem.W.Frag} {H0 H H' : Hp} {M Oc O O' : AS} {ow : List Nat} {fr : Bool} {σV : L2.St} {σ : Sl} {E : Ends}
theorem SI.same (i : SI K H0 M Oc ow σV σ H O) (s : Same H H') : SI K H0 M Oc ow σV σ H' O :=
  ⟨i.rel.same i.ok s, i.ok.same s, fun b x e n => s _ _ (i.kept b x e n), i.own, i.okc, i.oc⟩
theorem Fin.step {o : Out} (f : Fin K H0 M Oc ow fr H O E o) (ev : Evo H O H' O') : Fin K H0 M Oc ow fr H' O' E o := by
  cases o with
  | nx σ' => exact fun σV' H2 O2 i e => f σV' H2 O2 i (ev.trans e)
  | bk σ' => exact fun σV' H2 O2 i e => f σV' H2 O2 i (ev.trans e)
  | ct σ' => exact fun σV' H2 O2 i e => f σV' H2 O2 i (ev.trans e)
  | ret d => exact f
theorem SI.shr (i : SI K H0 M Oc ow σV σ H O) {j : Nat} {v : V} {d : D} (hj : j ∉ ow) (h : R K H O v d) : SI K H0 M Oc ow (σV.set j (some v)) (sset σ j (some d)) H O := by
  refine ⟨i.rel.set hj h, i.ok, i.kept, fun l p d' hl g e => ?_, i.okc, i.oc⟩
  have n : j ≠ l := fun z => hj (z ▸ hl)
  rw [sget_ne n] at g
  rw [List.getElem?_set_ne n] at e
  exact i.own l p d' hl g e
/-- what a slot owns is changed -/
theorem SI.putK (i : SI K H0 M Oc ow σV σ H O) {j : Nat} {p : Addr} {d0 d1 : D} (hj : j ∈ ow) (hv : σV[j]? = some (some (V.ref p))) (hs : sget σ j = some d0) (hp : O p) (hk : Keep (fun b => b = p) H H') (hc : OwnC K H' O p d1) :
    SI K H0 M Oc ow σV (sset σ j (some d1)) H' O ∧ Evo H O H' O := by
  have ev : Evo H O H' O := fun b x e n => ⟨hk b x e fun z => n (z ▸ hp), n⟩
  have ok' : OOk H' O := fun q hq => by
    by_cases z : q = p
    · subst z
      cases d1 with
      | list ds => obtain ⟨vs, e, _⟩ := hc; exact .inl ⟨_, e⟩
      | dict kvs => obtain ⟨ks, vs, ds, e, _⟩ := hc; exact .inr (.inr ⟨_, e⟩)
      | _ => exact hc.elim
    · rcases i.ok q hq with ⟨x, e⟩ | ⟨x, e⟩ | ⟨x, e⟩
      · exact .inl ⟨x, hk _ _ e z⟩
      · exact .inr (.inl ⟨x, hk _ _ e z⟩)
      · exact .inr (.inr ⟨x, hk _ _ e z⟩)
  have key : ∀ {l : Nat} {d : D}, sget (sset σ j (some d1)) l = some d → ∃ d', sget σ l = some d' := fun {l d} z => by
    rcases sget_set z with ⟨rfl, _⟩ | ⟨_, z⟩
    · exact ⟨_, hs⟩
    · exact ⟨_, z⟩
  refine ⟨⟨⟨by rw [sset_len, i.rel.len], fun l d h => ?_, fun a b d1 d2 q n h1 h2 g1 g2 e1 e2 => ?_⟩, ok', fun b x e n => ?_, fun l q d hl g e => ?_, i.okc, i.oc⟩, ev⟩
  · rcases sget_set h with ⟨rfl, z⟩ | ⟨n, z⟩
    · cases z
      exact ⟨V.ref p, hv, fun q => absurd hj q, fun _ => ⟨p, rfl, hp, hc⟩⟩
    · obtain ⟨v, e, a, b⟩ := i.rel.slot l d z
      refine ⟨v, e, fun q => (a q).evo i.ok ev, fun q => ?_⟩
      obtain ⟨p2, x, y, w⟩ := b q
      refine ⟨p2, x, y, ?_⟩
      have ne : p2 ≠ p := fun q2 => by
        rw [q2] at x
        subst x
        exact i.rel.apart j l _ _ p n hj q hs z hv e
      cases d with
      | list ds => obtain ⟨vs, e1, r1⟩ := w; exact ⟨vs, hk _ _ e1 ne, r1.evo i.ok ev⟩
      | dict kvs => obtain ⟨ks, vs, ds, e1, l, r1, z⟩ := w; exact ⟨ks, vs, ds, hk _ _ e1 ne, l, r1.evo i.ok ev, z⟩
      | _ => exact w.elim
  · obtain ⟨x1, y1⟩ := key g1
    obtain ⟨x2, y2⟩ := key g2
    exact i.rel.apart a b x1 x2 q n h1 h2 y1 y2 e1 e2
  · have := i.kept b x e n
    by_cases z : b = p
    · subst z
      rcases i.own j b _ hj hs hv with q | q
      · rw [q] at e; cases e
      · exact absurd q n
    · exact hk _ _ this z
  · obtain ⟨x1, y1⟩ := key g
    exact i.own l q x1 hl y1 e
theorem SI.put (i : SI K H0 M Oc ow σV σ H O) {j : Nat} {p : Addr} {ds dl : List D} (hj : j ∈ ow) (hv : σV[j]? = some (some (V.ref p))) (hs : sget σ j = some (.list dl)) (hp : O p) {us : List V} (r : RA K H O us ds) :
    SI K H0 M Oc ow σV (sset σ j (some (.list ds))) (upd H p (.lst us)) O ∧ Evo H O (upd H p (.lst us)) O :=
  i.putK hj hv hs hp (fun b x e n => by rw [upd_ne n]; exact e) ⟨us, upd_same, r.evo i.ok fun b x e n => ⟨by rw [upd_ne fun z => n (by rw [z]; exact hp)]; exact e, n⟩⟩
/-- a new list is stored in a slot that owns -/
theorem SI.new (i : SI K H0 M Oc ow σV σ H O) {j : Nat} {p : Addr} {d : D} (hj : j ∈ ow) (s : Same H H') (n : H p = none) (hp : ∀ O2, OOk H' O2 → (∀ q, O q → O2 q) → O2 p → (∀ q, O2 q → O q ∨ q = p) → OwnC K H' O2 p d)
    (hm : (∃ xs, H' p = some (.lst xs)) ∨ (∃ kvs, H' p = some (.dK kvs)) ∨ ∃ kvs, H' p = some (.dT kvs)) :
    SI K H0 M Oc ow (σV.set j (some (V.ref p))) (sset σ j (some d)) H' (fun b => O b ∨ b = p) ∧ Evo H O H' (fun b => O b ∨ b = p) := by
  have nold : ∀ b, H b ≠ none → (O b ∨ b = p) → O b := fun b hb z => z.elim id fun z => absurd (by rw [z]; exact n) hb
  have ev : Evo H O H' (fun b => O b ∨ b = p) := evo_of s nold
  have r2 := i.rel.more i.ok s nold fun b z => .inl z
  have ok' : OOk H' (fun b => O b ∨ b = p) := fun q hq => by
    rcases hq with hq | rfl
    · exact i.ok.same s q hq
    · exact hm
  have hc := hp _ ok' (fun q z => .inl z) (.inr rfl) fun q z => z
  have np : ∀ l d' q, l ∈ ow → sget σ l = some d' → σV[l]? = some (some (V.ref q)) → q ≠ p := fun l d' q hl g e z => by
    obtain ⟨v, e1, _, b⟩ := i.rel.slot l d' g
    obtain ⟨p2, x, y, _⟩ := b hl
    rw [e1] at e
    cases e
    cases x
    exact i.ok.some y (z ▸ n)
  refine ⟨⟨⟨by rw [List.length_set, sset_len, i.rel.len], fun l d' h => ?_, fun a b d1 d2 q ne h1 h2 g1 g2 e1 e2 => ?_⟩, ok', fun b x e nb => s _ _ (i.kept b x e nb), fun l q d' hl g e => ?_, i.okc, fun q z => .inl (i.oc q z)⟩, ev⟩
  · rcases sget_set h with ⟨rfl, z⟩ | ⟨ne, z⟩
    · cases z
      have hl := sget_lt h
      rw [sset_len, ← i.rel.len] at hl
      exact ⟨V.ref p, List.getElem?_set_self hl, fun q => absurd hj q, fun _ => ⟨p, rfl, .inr rfl, hc⟩⟩
    · obtain ⟨v, e, q⟩ := r2.slot l d' z
      exact ⟨v, by rw [List.getElem?_set_ne ne]; exact e, q⟩
  · rcases sget_set g1 with ⟨rfl, z1⟩ | ⟨n1, z1⟩
    · rcases sget_set g2 with ⟨rfl, z2⟩ | ⟨n2, z2⟩
      · exact ne rfl
      · rw [List.getElem?_set_ne n2] at e2
        have hl := sget_lt g1
        rw [sset_len, ← i.rel.len] at hl
        rw [List.getElem?_set_self hl] at e1
        cases e1
        exact np _ _ _ h2 z2 e2 rfl
    · rw [List.getElem?_set_ne n1] at e1
      rcases sget_set g2 with ⟨rfl, z2⟩ | ⟨n2, z2⟩
      · have hl := sget_lt g2
        rw [sset_len, ← i.rel.len] at hl
        rw [List.getElem?_set_self hl] at e2
        cases e2
        exact np _ _ _ h1 z1 e1 rfl
      · rw [List.getElem?_set_ne n2] at e2
        exact i.rel.apart a b d1 d2 q ne h1 h2 z1 z2 e1 e2
  · rcases sget_set g with ⟨rfl, z⟩ | ⟨ne, z⟩
    · have hl' := sget_lt g
      rw [sset_len, ← i.rel.len] at hl'
      rw [List.getElem?_set_self hl'] at e
      cases e
      cases z0 : H0 p with
      | none => exact .inl rfl
      | some x =>
        refine .inr ?_
        by_cases mp : M p
        · exact mp
        · have := i.kept p x z0 mp
          rw [n] at this
          cases this
    · rw [List.getElem?_set_ne ne] at e
      exact i.own l q d' hl z e
/-- a slot's list is given up: nobody owns it from here on -/
theorem SI.giv (i : SI K H0 M Oc ow σV σ H O) {j : Nat} {v : V} {d : D} (hj : j ∈ ow) (hs : sget σ j = some d) (hv : σV[j]? = some (some v)) (hM : ∀ p, ¬ M p) :
    ∃ O', SI K H0 M Oc ow σV (sset σ j none) H O' ∧ Evo H O H O' ∧ R K H O' v d ∧ (∀ q, O' q → O q) ∧ ∃ p, v = V.ref p ∧ ∀ q, O q → q ≠ p → O' q := by
  obtain ⟨v', e1, _, b⟩ := i.rel.slot j d hs
  rw [hv] at e1
  cases e1
  obtain ⟨p, rfl, hp, hc⟩ := b hj
  let O' : AS := fun b => O b ∧ b ≠ p
  have m : ∀ q, O' q → O q := fun q z => z.1
  have ev : Evo H O H O' := fun b x e n => ⟨e, fun z => n z.1⟩
  have pc : ¬ Oc p := fun z => by
    rcases i.own j p d hj hs hv with q | q
    · exact i.okc.some z q
    · exact hM p q
  have key : ∀ {l : Nat} {d' : D}, sget (sset σ j none) l = some d' → j ≠ l ∧ sget σ l = some d' := fun {l d'} z => by
    rcases sget_set z with ⟨_, q⟩ | q
    · cases q
    · exact q
  refine ⟨O', ⟨⟨by rw [sset_len]; exact i.rel.len, fun l d' h => ?_, fun a b d1 d2 q n h1 h2 g1 g2 e1 e2 => ?_⟩, i.ok.mono m, i.kept, fun l q d' hl g e => i.own l q d' hl (key g).2 e, i.okc, fun q z => ⟨i.oc q z, fun y => pc (y ▸ z)⟩⟩, ev, ?_, m, p, rfl, fun q z n => ⟨z, n⟩⟩
  · obtain ⟨n, h⟩ := key h
    obtain ⟨u, e, x, y⟩ := i.rel.slot l d' h
    refine ⟨u, e, fun z => (x z).less i.ok m, fun z => ?_⟩
    obtain ⟨p2, w1, w2, w3⟩ := y z
    have ne : p2 ≠ p := fun q => by
      rw [q] at w1
      subst w1
      exact i.rel.apart j l _ _ p n hj z hs h hv e
    refine ⟨p2, w1, ⟨w2, ne⟩, ?_⟩
    cases d' with
    | list ds => obtain ⟨vs, e1, r1⟩ := w3; exact ⟨vs, e1, r1.less i.ok m⟩
    | dict kvs => obtain ⟨ks, vs, ds, e1, l, r1, z⟩ := w3; exact ⟨ks, vs, ds, e1, l, r1.less i.ok m, z⟩
    | _ => exact w3.elim
  · exact i.rel.apart a b d1 d2 q n h1 h2 (key g1).2 (key g2).2 e1 e2
  · exact hc.free i.ok m fun z => z.2 rfl
end
end Ev

set_option Elab.async false
set_option linter.all false
set_option maxRecDepth 100000
set_option maxHeartbeats 4000000
/-! EvK: every statement of the checked form does what the small language's does. -/
namespace Ev
open PySem PySem.Spec PyProof.Rows L2

section
variable {X : Cx}
def rAug (K : PySem.W.Frag) (o : Bop) : TIp := fun x y H Q => ∃ O dx dy d, OOk H O ∧ WR K H O x dx ∧ WR K H O y dy ∧ augop o dx dy = some d ∧ ∀ v, R K H O v d → Q v H
theorem ip_aug (o : Bop) (h : (o == .add || o == .sub || o == .mul) = true) : PIp X (bopO o) (rAug X.K o) := by
  intro pins s σ H x y v u Q I rx ry z
  obtain ⟨O, dx, dy, d, ok, hx, hy, e, q⟩ := z
  unfold augop at e
  split at e
  · cases hx.int; cases hy.int
    obtain ⟨t, rfl⟩ := rx
    obtain ⟨t', rfl⟩ := ry
    cases o <;> first | (cases h; done) | skip
    · cases e
      exact iadd_int ⟨.int _, H, I.tok _, ⟨_, rfl⟩, q _ (.int _)⟩
    · cases e
      exact isub_int ⟨.int _, H, I.tok _, ⟨_, rfl⟩, q _ (.int _)⟩
    · simp only [binop] at e
      split at e
      · rename_i hl
        cases e
        exact imul_int ⟨.int _, H, I.tok _, ⟨_, rfl⟩, q _ (.int _)⟩ (natAbs_log (of_decide_eq_true hl))
      · cases e
  · cases e
end

/-- what does not lie in a store of a comprehension -/
theorem sw_plain {v : PySem.Expr} (h : noComp v = true) (t : Option PySem.Expr) (line : Nat) (env : Env) : swapsWith v t line env = pure false := by
  cases v <;> first | rfl | cases h
theorem sw_tup {v : PySem.Expr} (tg : PySem.Expr) (h : isTupX tg = true) (h2 : ∀ a b c d e, v ≠ .DictComp a b c d e) (h3 : ∀ a b c d, v ≠ .SetComp a b c d) (line : Nat) (env : Env) : swapsWith v (some tg) line env = pure false := by
  cases tg <;> first | (cases h; done) | skip
  cases v <;> first | rfl | exact absurd rfl (h2 _ _ _ _ _) | exact absurd rfl (h3 _ _ _ _)
theorem isE_nodict {L : Lk} {N : List Str} {ow : List Nat} {sc : Scope} {e : E} {v : PySem.Expr} (h : isE L N ow sc e v = true) : (∀ a b c d e, v ≠ .DictComp a b c d e) ∧ (∀ a b c d, v ≠ .SetComp a b c d) := by
  constructor
  · intro a b c d e' z
    subst z
    cases e <;> simp [isE] at h
  · intro a b c d z
    subst z
    cases e <;> simp [isE] at h
theorem sw_name {v : PySem.Expr} {x : Str} {px : Pos} {line : Nat} {env : Env} (hk : env.scope.kind = .function) (h2 : ∀ a b c d e, v ≠ .DictComp a b c d e) (h3 : ∀ a b c d, v ≠ .SetComp a b c d) : swapsWith v (some (.Name x px)) line env = pure (swC env.scope x px.line v) := by
  have hb : env.blockKind = .function := by unfold Env.blockKind; rw [hk]; rfl
  cases v <;> first | rfl | exact absurd rfl (h2 _ _ _ _ _) | exact absurd rfl (h3 _ _ _ _) | skip
  unfold swapsWith swC
  simp only [hb]
  rfl
theorem swst_none {tg v : PySem.Expr} {env : Env} (h : noTup v = true) : swappedStores [tg] v env = pure none := by
  cases tg <;> cases v <;> first | rfl | (cases h; done)

section
variable {L : Lk} {T : Nat → Option Fn} {C : Nat → List D → Option D} {k : Nat} {N : List Str} {ow : List Nat} {fr : Bool} {sc : Scope} {X : Cx} {NN : Nat} {H0 : Hp} {Oc : AS}

/-- what a statement's context is -/
structure CtxS (L : Lk) (T : Nat → Option Fn) (C : Nat → List D → Option D) (k : Nat) (N : List Str) (sc : Scope) (X : Cx) : Prop where
  cx : Ctx L T C k X
  hn : X.N = N
  hs : X.env.scope = sc
  kind : sc.kind = ScopeKind.function
  fn : ∀ x, X.fn x = true
  xe : PassesOwn (model X.prog X.w) X.A X.env X.xe
theorem CtxS.tg (c : CtxS L T C k N sc X) : TgOk X sc := fun x h => ⟨by rw [c.hs]; exact locC_iff h, .inl (c.fn x)⟩
theorem name_ok {i : Nat} {x : Str} (h : nameC N sc i x = true) : N[i]? = some x ∧ L2.Loc sc x ∧ (x == ("__debug__" : Str)) = false ∧ (x == ("__classdict__" : Str)) = false := by
  simp only [nameC, Bool.and_eq_true, beq_iff_eq, noDbg, Bool.not_eq_true'] at h
  exact ⟨h.1.1, locC_iff h.1.2, h.2.1, h.2.2⟩
theorem p_name {i : Nat} {x : Str} {p : Pos} (c : CtxS L T C k N sc X) (h : nameC N sc i x = true) : PE X (.Name x p) (tVar i) := by
  obtain ⟨h1, h2, h3, h4⟩ := name_ok h
  exact pe_var (by rw [c.hn]; exact h1) (by rw [c.hs]; exact h2.imp id .inl) h3 h4
/-- name = value -/
theorem set_any {i : Nat} {x : Str} {px pos : Pos} {e : E} {v : PySem.Expr} (c : CtxS L T C k N sc X) (h : nameC N sc i x = true) (he : isE L N ow sc e v = true) : PS X (.Assign [.Name x px] v pos) (tAsg (rdE X.K C ow L.fr e) (gName i)) := by
  obtain ⟨h1, h2, h3, h4⟩ := name_ok h
  obtain ⟨n1, n2⟩ := isE_nodict he
  have hN : X.N[i]? = some x := by rw [c.hn]; exact h1
  have hsw := sw_name (v := v) (x := x) (px := px) (line := pos.line) (env := X.env) (by rw [c.hs]; exact c.kind) n1 n2
  cases z : swC X.env.scope x px.line v with
  | false =>
    rw [z] at hsw
    exact ps_set c.cx.nd hN (by rw [c.hs]; exact h2) ((allE e).1 X sc v c.cx c.hn c.hs he) hsw (.inl (c.fn x))
  | true =>
    rw [z] at hsw
    cases v <;> first | (cases z; done) | skip
    have hl : X.env.scope.names.lookup x = some .local := by
      unfold swC at z
      simp only [Bool.and_eq_true, beq_iff_eq] at z
      exact z.1.1
    cases e <;> first | (simp [isE] at he; done) | skip
    all_goals first | skip
    case comp2 elt t1 s1 src1 t2 s2 src2 => exact (g_comp2 (allEs src1).2.1 (allEs src1).1 (allEs src2).2.1 (allEs src2).1 (allE elt).1 c.cx c.hn c.hs he).2 i x px pos hN hl hsw
    rename_i elt tg s src cnd
    exact (g_comp (allEs src).2.1 (allEs src).1 (allE elt).1 (allE cnd).2 c.cx c.hn c.hs he).2 i x px pos hN hl hsw
theorem s_asg {i : Nat} {e : E} {st : Stmt} (c : CtxS L T C k N sc X) (h : isS L N ow fr sc (.asg i e) st = true) : PS X st (rdS X.K C NN H0 aNo Oc ow fr (.asg i e)) := by
  unfold isS at h
  split at h
  · simp only [Bool.and_eq_true, Bool.not_eq_true'] at h
    obtain ⟨⟨⟨⟨h1, h2⟩, h3⟩, h4⟩, _⟩ := h
    refine (set_any c h1 h4).imp ?_
    rintro E σV H ⟨σ, O, o, si, ev, fin⟩
    simp only [evS, Option.bind_eq_some_iff] at ev
    obtain ⟨d, e1, e2⟩ := ev
    cases e2
    refine ⟨σ, O, d, si.rel, si.ok, e1, fun v H' p => ?_⟩
    exact fin _ _ O ((si.same p.same).shr (by simpa using h2) (p.r h3)) (.of_same p.same)
  · cases h
theorem s_asgO {i : Nat} {e : E} {st : Stmt} (c : CtxS L T C k N sc X) (h : isS L N ow fr sc (.asgO i e) st = true) : PS X st (rdS X.K C NN H0 aNo Oc ow fr (.asgO i e)) := by
  unfold isS at h
  split at h
  · simp only [Bool.and_eq_true] at h
    obtain ⟨⟨⟨⟨h1, h2⟩, h3⟩, h4⟩, h5⟩ := h
    refine (set_any c h1 h5).imp ?_
    rintro E σV H ⟨σ, O, o, si, ev, fin⟩
    simp only [evS, Option.bind_eq_some_iff] at ev
    obtain ⟨d, e1, e2⟩ := ev
    split at e2
    · cases e2
      refine ⟨σ, O, _, si.rel, si.ok, e1, fun v H' p => ?_⟩
      obtain ⟨q, vs, rfl, n, hq, ra⟩ := p.f h4
      have hi : i ∈ ow := by simpa using h2
      obtain ⟨si', ev'⟩ := si.new hi p.same n (d := .list _) (fun O2 ok2 m1 m2 m3 => ⟨vs, hq, ra.evo (O := fun b => O b ∨ b = q) (H' := H') (fun p' hp' => by
        rcases hp' with hp' | rfl
        · exact si.ok.same p.same p' hp'
        · exact .inl ⟨_, hq⟩) fun b x eb nb => ⟨eb, fun z => nb (m3 b z)⟩⟩) (.inl ⟨_, hq⟩)
      exact fin _ _ _ si' ev'
    · cases e2
  · cases h
theorem s_newD {i : Nat} {st : Stmt} (c : CtxS L T C k N sc X) (h : isS L N ow fr sc (.newD i) st = true) : PS X st (rdS X.K C NN H0 aNo Oc ow fr (.newD i)) := by
  unfold isS at h
  split at h
  · simp only [Bool.and_eq_true] at h
    obtain ⟨h1, h2⟩ := h
    obtain ⟨g1, g2, g3, g4⟩ := name_ok h1
    refine (ps_set c.cx.nd (by rw [c.hn]; exact g1) (by rw [c.hs]; exact g2) pe_dnewT rfl (.inl (c.fn _))).imp ?_
    rintro E σV H ⟨σ, O, o, si, ev, fin⟩
    cases ev
    intro p n
    obtain ⟨si', ev'⟩ := si.new (j := i) (by simpa using h2) (same_upd n) n (d := .dict []) (fun O2 ok2 m1 m2 m3 => ⟨[], [], [], upd_same, rfl, .nil, rfl⟩) (.inr (.inr ⟨_, upd_same⟩))
    exact fin _ _ _ si' ev'
  · cases h
theorem s_mov {i j : Nat} {st : Stmt} (c : CtxS L T C k N sc X) (h : isS L N ow fr sc (.mov i j) st = true) : PS X st (rdS X.K C NN H0 aNo Oc ow fr (.mov i j)) := by
  unfold isS at h
  split at h
  · simp only [Bool.and_eq_true, Bool.not_eq_true'] at h
    obtain ⟨⟨⟨h1, h2⟩, h3⟩, h4⟩ := h
    obtain ⟨g1, g2, g3, g4⟩ := name_ok h1
    refine (ps_set c.cx.nd (by rw [c.hn]; exact g1) (by rw [c.hs]; exact g2) (p_name c h2) rfl (.inl (c.fn _))).imp ?_
    rintro E σV H ⟨σ, O, o, si, ev, fin⟩
    simp only [evS, Option.bind_eq_some_iff] at ev
    obtain ⟨d, e1, e2⟩ := ev
    cases e2
    obtain ⟨v, hv, _⟩ := si.rel.slot j d e1
    obtain ⟨O', si', ev', rv, _⟩ := si.giv (by simpa using h4) e1 hv (fun p z => z)
    exact ⟨v, hv, fin _ _ O' (si'.shr (by simpa using h3) rv) ev'⟩
  · cases h
theorem SI.tgt {K : PySem.W.Frag} {H : Hp} {M O : AS} {σV σV' : L2.St} {σ σ' : Sl} {t : List Nat} (i : SI K H0 M Oc ow σV σ H O) (r : SRel K H O ow σV' σ') (hσ : ∀ j, j ∉ t → sget σ' j = sget σ j) (hV : ∀ j, j ∉ t → σV'[j]? = σV[j]?) (ht : ∀ j ∈ t, j ∉ ow) : SI K H0 M Oc ow σV' σ' H O :=
  ⟨r, i.ok, i.kept, fun l p d hl g e => by
    have n : l ∉ t := fun z => ht l z hl
    rw [hσ l n] at g
    rw [hV l n] at e
    exact i.own l p d hl g e, i.okc, i.oc⟩
theorem s_unp {t : Tg} {e : E} {st : Stmt} (c : CtxS L T C k N sc X) (h : isS L N ow fr sc (.unp t e) st = true) : PS X st (rdS X.K C NN H0 aNo Oc ow fr (.unp t e)) := by
  unfold isS at h
  split at h
  · rename_i tg v pos
    simp only [Bool.and_eq_true] at h
    obtain ⟨⟨⟨⟨h1, h2⟩, h3⟩, h4⟩, h5⟩ := h
    obtain ⟨n1, n2⟩ := isE_nodict h5
    refine (ps_asg ((allE e).1 X sc v c.cx c.hn c.hs h5) (s_tg c.cx.calm c.cx.nd c.hn c.tg t tg h2) (sw_tup tg h1 n1 n2 _ _) (swst_none h3) (by cases tg <;> first | rfl | cases h1)).imp ?_
    rintro E σV H ⟨σ, O, o, si, ev, fin⟩
    simp only [evS, Option.bind_eq_some_iff] at ev
    obtain ⟨d, e1, e2⟩ := ev
    unfold nxt at e2
    simp only [Option.bind_eq_some_iff] at e2
    obtain ⟨σ', e2, e3⟩ := e2
    cases e3
    refine ⟨σ, O, d, si.rel, si.ok, e1, fun v H' p => ?_⟩
    have si2 := si.same p.same
    refine ⟨σ, O, d, σ', si2.rel, si2.ok, p.r h4, e2, fun σV' r l kk => ?_⟩
    exact fin _ _ O (si2.tgt r (bind_out t d σ σ' e2) kk (tg_own t tg h2)) (.of_same p.same)
  · cases h
theorem s_aug {i : Nat} {o : Bop} {e : E} {st : Stmt} (c : CtxS L T C k N sc X) (h : isS L N ow fr sc (.aug i o e) st = true) : PS X st (rdS X.K C NN H0 aNo Oc ow fr (.aug i o e)) := by
  unfold isS at h
  split at h
  · simp only [Bool.and_eq_true, decide_eq_true_eq] at h
    obtain ⟨⟨⟨⟨h1, h2⟩, rfl⟩, h4⟩, h5⟩ := h
    obtain ⟨g1, g2, g3, g4⟩ := name_ok h1
    refine (ps_aug c.cx.nd (by rw [c.hn]; exact g1) (by rw [c.hs]; exact g2) ((allE e).1 X sc _ c.cx c.hn c.hs h5) (ip_aug o h4) (.inl (c.fn _))).imp ?_
    rintro E σV H ⟨σ, O, o', si, ev, fin⟩
    simp only [evS, Option.bind_eq_some_iff] at ev
    obtain ⟨x, e1, y, e2, z, e3, e4⟩ := ev
    cases e4
    obtain ⟨v, hv, wv, _⟩ := si.rel.wr e1
    refine ⟨v, hv, σ, O, y, si.rel, si.ok, e2, fun u H' p => ?_⟩
    refine ⟨O, x, y, z, si.ok.same p.same, wv.same si.ok p.same, p.wr, e3, fun w rw' => ?_⟩
    exact fin _ _ O ((si.same p.same).shr (by simpa using h2) rw') (.of_same p.same)
  · cases h
theorem bm_app {x m : Str} {px apos cpos : Pos} {v : PySem.Expr} {tv te : TE} (hp : PE X (.Name x px) tv) (he : PE X v te) (hl : (apos.endLine == cpos.line) = true) (hv : plainX v = true) :
    PE X (.Call (.Attribute (.Name x px) ("append" : Str) apos) [v] [] cpos) (tBM X.K "list" rAppend tv (tCons te tNil)) :=
  have hst := star_plain hv [] X.env
  pe_bm PySem.F.plainAttrs_list PySem.F.slot_list_append PySem.F.type_list_append mt_append hp (pa_cons he pa_nil hst) rfl (by rw [hst]; rfl) hl hst rfl
theorem bm_ext {x m : Str} {px apos cpos : Pos} {v : PySem.Expr} {tv te : TE} (hp : PE X (.Name x px) tv) (he : PE X v te) (hl : (apos.endLine == cpos.line) = true) (hv : plainX v = true) :
    PE X (.Call (.Attribute (.Name x px) ("extend" : Str) apos) [v] [] cpos) (tBM X.K "list" rExtend tv (tCons te tNil)) :=
  have hst := star_plain hv [] X.env
  pe_bm PySem.F.plainAttrs_list PySem.F.slot_list_extend PySem.F.type_list_extend mt_extend hp (pa_cons he pa_nil hst) rfl (by rw [hst]; rfl) hl hst rfl
theorem s_app {i : Nat} {e : E} {st : Stmt} (c : CtxS L T C k N sc X) (h : isS L N ow fr sc (.app i e) st = true) : PS X st (rdS X.K C NN H0 aNo Oc ow fr (.app i e)) := by
  unfold isS at h
  split at h
  · simp only [Bool.and_eq_true, beq_iff_eq] at h
    obtain ⟨⟨⟨⟨⟨⟨h1, h2⟩, rfl⟩, h4⟩, h5⟩, h6⟩, h7⟩ := h
    refine (ps_expr (bm_app (m := "append") (p_name c h1) ((allE e).1 X sc _ c.cx c.hn c.hs h7) (by simpa using h4) h6) rfl).imp ?_
    rintro E σV H ⟨σ, O, o', si, ev, fin⟩
    simp only [evS, Option.bind_eq_some_iff] at ev
    obtain ⟨x, e1, l, e2, l', e3, e4⟩ := ev
    cases e4
    unfold appD at e3
    split at e3
    · split at e3
      · rename_i l0 hlen
        cases e3
        obtain ⟨v, hv, _, w'⟩ := si.rel.slot i _ e2
        obtain ⟨p, rfl, hp, vs, hH, ra⟩ := w' (by simpa using h2)
        refine ⟨V.ref p, hv, .inl ⟨rfl, vs, .inl (.inl hH)⟩, σ, O, x, si.rel, si.ok, e1, fun u H' pp => ?_⟩
        have si2 := si.same pp.same
        refine ⟨p, vs, u, rfl, rfl, pp.same _ _ hH, lim_lt (by rw [ra.length]; exact hlen), ?_⟩
        obtain ⟨si3, ev3⟩ := si2.put (by simpa using h2) hv e2 hp (us := vs ++ [u]) ((ra.same si.ok pp.same).append (.cons (pp.r h5) .nil))
        exact fin _ _ O si3 ((Evo.of_same pp.same).trans ev3)
      · cases e3
    · cases e3
  · cases h
theorem s_ext {i : Nat} {e : E} {st : Stmt} (c : CtxS L T C k N sc X) (h : isS L N ow fr sc (.ext i e) st = true) : PS X st (rdS X.K C NN H0 aNo Oc ow fr (.ext i e)) := by
  unfold isS at h
  split at h
  · simp only [Bool.and_eq_true, beq_iff_eq] at h
    obtain ⟨⟨⟨⟨⟨⟨h1, h2⟩, rfl⟩, h4⟩, h5⟩, h6⟩, h7⟩ := h
    refine (ps_expr (bm_ext (m := "extend") (p_name c h1) ((allE e).1 X sc _ c.cx c.hn c.hs h7) (by simpa using h4) h6) rfl).imp ?_
    rintro E σV H ⟨σ, O, o', si, ev, fin⟩
    simp only [evS, Option.bind_eq_some_iff] at ev
    obtain ⟨x, e1, l, e2, l', e3, e4⟩ := ev
    cases e4
    unfold extD at e3
    split at e3
    · split at e3
      · rename_i l0 r0 hlen
        cases e3
        obtain ⟨v, hv, _, w'⟩ := si.rel.slot i _ e2
        obtain ⟨p, rfl, hp, vs, hH, ra⟩ := w' (by simpa using h2)
        refine ⟨V.ref p, hv, .inl ⟨rfl, vs, .inl (.inl hH)⟩, σ, O, _, si.rel, si.ok, e1, fun u H' pp => ?_⟩
        have si2 := si.same pp.same
        obtain ⟨b, zs, rfl, hb, rb⟩ := pp.wr.lst
        refine ⟨p, b, vs, zs, rfl, rfl, pp.same _ _ hH, hb, lim_line (by rw [ra.length, rb.length]; exact hlen), ?_⟩
        obtain ⟨si3, ev3⟩ := si2.put (by simpa using h2) hv e2 hp (us := vs ++ zs) ((ra.same si.ok pp.same).append rb)
        exact fin _ _ O si3 ((Evo.of_same pp.same).trans ev3)
      · cases e3
    · cases e3
  · cases h
theorem s_appM {i j : Nat} {st : Stmt} (c : CtxS L T C k N sc X) (h : isS L N ow fr sc (.appM i j) st = true) : PS X st (rdS X.K C NN H0 aNo Oc ow fr (.appM i j)) := by
  unfold isS at h
  split at h
  · simp only [Bool.and_eq_true, beq_iff_eq, bne_iff_ne, ne_eq] at h
    obtain ⟨⟨⟨⟨⟨⟨h1, h2⟩, rfl⟩, h4⟩, h5⟩, h6⟩, h7⟩ := h
    refine (ps_expr (bm_app (m := "append") (p_name c h1) (p_name c h5) (by simpa using h4) rfl) rfl).imp ?_
    rintro E σV H ⟨σ, O, o', si, ev, fin⟩
    simp only [evS, Option.bind_eq_some_iff] at ev
    obtain ⟨x, e1, l, e2, l', e3, e4⟩ := ev
    cases e4
    unfold appD at e3
    split at e3
    · split at e3
      · rename_i l0 hlen
        cases e3
        obtain ⟨v, hv, _, w'⟩ := si.rel.slot i _ e2
        obtain ⟨p, rfl, hp, vs, hH, ra⟩ := w' (by simpa using h2)
        obtain ⟨u, hu, _⟩ := si.rel.slot j _ e1
        obtain ⟨O', si', ev', ru, m, q, rfl, mq⟩ := si.giv (by simpa using h6) e1 hu (fun p z => z)
        have pq : p ≠ q := fun z => si.rel.apart i j _ _ p h7 (by simpa using h2) (by simpa using h6) e2 e1 hv (by rw [z]; exact hu)
        refine ⟨V.ref p, hv, .inl ⟨rfl, vs, .inl (.inl hH)⟩, V.ref q, hu, p, vs, _, rfl, rfl, hH, lim_lt (by rw [ra.length]; exact hlen), ?_⟩
        have e2' : sget (sset σ j none) i = some (.list l0) := by rw [sget_ne (fun z => h7 z.symm)]; exact e2
        obtain ⟨si3, ev3⟩ := si'.put (by simpa using h2) hv e2' (mq p hp pq) (us := vs ++ [V.ref q]) ((ra.less si.ok m).append (.cons ru .nil))
        exact fin _ _ O' si3 (ev'.trans ev3)
      · cases e3
    · cases e3
  · cases h
theorem s_setL {i : Nat} {kk e : E} {st : Stmt} (c : CtxS L T C k N sc X) (h : isS L N ow fr sc (.setL i kk e) st = true) : PS X st (rdS X.K C NN H0 aNo Oc ow fr (.setL i kk e)) := by
  unfold isS at h
  split at h
  · rename_i x px kx ps v pos
    simp only [Bool.and_eq_true] at h
    obtain ⟨⟨⟨⟨⟨h1, h2⟩, h3⟩, h4⟩, h5⟩, h6⟩ := h
    obtain ⟨n1, n2⟩ := isE_nodict h6
    have hsub : ∀ u, assign (.Subscript (.Name x px) kx ps) X.env u = (do
        let ov ← holding [u] (eval (.Name x px) X.env)
        let iv ← holding [u, ov] (eval kx X.env)
        standAt ps
        holding [u, ov, iv] (setItem ov iv u)
        release [u, ov, iv] []) := by
      intro u
      cases kx <;> first | rfl | (cases h3; done)
    have hw : swapsWith v (some (.Subscript (.Name x px) kx ps)) pos.line X.env = pure false := by
      cases v <;> first | rfl | exact absurd rfl (n1 _ _ _ _ _) | exact absurd rfl (n2 _ _ _ _)
    have hs : swappedStores [.Subscript (.Name x px) kx ps] v X.env = pure none := by cases v <;> rfl
    refine (ps_asg ((allE e).1 X sc v c.cx c.hn c.hs h6) (pg_sub (p_name c h1) ((allE kk).1 X sc kx c.cx c.hn c.hs h5) set_list hsub) hw hs rfl).imp ?_
    rintro E σV H ⟨σ, O, o', si, ev, fin⟩
    simp only [evS, Option.bind_eq_some_iff] at ev
    obtain ⟨dx, e1, l, e2, dn, e3, l', e4, e5⟩ := ev
    cases e5
    unfold setAt at e4
    split at e4
    · simp only [Option.bind_eq_some_iff] at e4
      obtain ⟨j, e4, e6⟩ := e4
      cases e6
      rename_i l0 n0
      obtain ⟨v', hv, _, w'⟩ := si.rel.slot i _ e2
      obtain ⟨p, rfl, hp, vs, hH, ra⟩ := w' (by simpa using h2)
      refine ⟨σ, O, dx, si.rel, si.ok, e1, fun u H1 p1 => ⟨V.ref p, hv, σ, O, _, si.rel.same si.ok p1.same, si.ok.same p1.same, e3, fun n H2 p2 => ?_⟩⟩
      have s12 := p1.same.trans p2.same
      have si2 := si.same s12
      have hn := p2.wr.int
      subst hn
      have ra2 := ra.same si.ok s12
      refine ⟨p, vs, n0, j, rfl, rfl, s12 _ _ hH, by rw [ra.length]; exact e4, ?_⟩
      obtain ⟨si3, ev3⟩ := si2.put (by simpa using h2) hv e2 hp (us := vs.set j u) (ra2.set j ((p1.r h4).same (si.ok.same p1.same) p2.same))
      exact fin _ _ O si3 ((Evo.of_same s12).trans ev3)
    · cases e4
  · cases h
theorem s_pop {i : Nat} {st : Stmt} (c : CtxS L T C k N sc X) (h : isS L N ow fr sc (.pop i) st = true) : PS X st (rdS X.K C NN H0 aNo Oc ow fr (.pop i)) := by
  unfold isS at h
  split at h
  · simp only [Bool.and_eq_true, beq_iff_eq] at h
    obtain ⟨⟨⟨h1, h2⟩, rfl⟩, h4⟩ := h
    refine (ps_expr (pe_bm0 PySem.F.plainAttrs_list PySem.F.slot_list_pop PySem.F.type_list_pop mt_pop (p_name c h1) rfl (by simpa using h4)) rfl).imp ?_
    rintro E σV H ⟨σ, O, o', si, ev, fin⟩
    simp only [evS, Option.bind_eq_some_iff] at ev
    obtain ⟨l, e2, l', e3, e4⟩ := ev
    cases e4
    unfold popD at e3
    split at e3
    · split at e3
      · cases e3
      · rename_i l0 hne
        cases e3
        obtain ⟨v, hv, _, w'⟩ := si.rel.slot i _ e2
        obtain ⟨p, rfl, hp, vs, hH, ra⟩ := w' (by simpa using h2)
        have hl : 0 < vs.length := by
          rw [ra.length]
          exact List.length_pos_iff.mpr hne
        refine ⟨V.ref p, hv, .inl ⟨rfl, vs, .inl (.inl hH)⟩, p, vs, vs[vs.length - 1], rfl, rfl, hH, List.getElem?_eq_getElem (by omega), ?_⟩
        obtain ⟨si3, ev3⟩ := si.put (by simpa using h2) hv e2 hp (us := vs.dropLast) ra.dropLast
        exact fin _ _ O si3 ev3
    · cases e3
  · cases h
theorem s_ret {e : E} {st : Stmt} (c : CtxS L T C k N sc X) (h : isS L N ow fr sc (.ret e) st = true) : PS X st (rdS X.K C NN H0 aNo Oc ow fr (.ret e)) := by
  unfold isS at h
  split at h
  · simp only [Bool.and_eq_true] at h
    obtain ⟨h1, h2⟩ := h
    have base : ∀ {σV : L2.St} {σ : Sl} {H : Hp} {O : AS}, SI X.K H0 aNo Oc ow σV σ H O → Same H0 H ∧ ∀ i p d, i ∈ ow → sget σ i = some d → σV[i]? = some (some (V.ref p)) → ¬ Oc p ∧ H0 p = none := fun {σV σ H O} si => by
      refine ⟨fun b x z => si.kept b x z fun q => q, fun i p d hi g q => ?_⟩
      rcases si.own i p d hi g q with w | w
      · exact ⟨fun z => si.okc.some z w, w⟩
      · exact w.elim
    by_cases hv : ∃ i, e = .var i ∧ i ∈ ow
    · obtain ⟨i, rfl, hi⟩ := hv
      unfold isE at h1
      split at h1
      · rename_i x p
        simp only [Bool.and_eq_true, beq_iff_eq, noDbg, Bool.not_eq_true'] at h1
        obtain ⟨⟨g1, g2⟩, g3, g4⟩ := h1
        refine (ps_ret (pe_var (by rw [c.hn]; exact g1) (by rw [c.hs]; exact visC_iff g2) g3 g4)).imp ?_
        rintro E σV H ⟨σ, O, o', si, ev, fin⟩
        simp only [evS, Option.bind_eq_some_iff] at ev
        obtain ⟨d, e1, e2⟩ := ev
        cases e2
        have e1 : sget σ i = some d := e1
        obtain ⟨v, hv, _, w'⟩ := si.rel.slot i d e1
        obtain ⟨q, rfl, hq, hc⟩ := w' hi
        obtain ⟨f1, f2⟩ := (base si).2 i q d hi e1 hv
        refine ⟨V.ref q, hv, fin (V.ref q) H si.kept fun _ => ⟨hc.free si.ok si.oc f1, fun hfr => ?_⟩⟩
        cases d with
        | list ds =>
          obtain ⟨vs, eh, r⟩ := hc
          exact ⟨q, vs, rfl, f2, eh, r.less si.ok fun b z => z.elim (si.oc b) fun z => by rw [z]; exact hq⟩
        | _ => trivial
      · cases h1
    · refine (ps_ret ((allE (ow := []) e).1 X sc _ c.cx c.hn c.hs h1)).imp ?_
      rintro E σV H ⟨σ, O, o', si, ev, fin⟩
      simp only [evS, Option.bind_eq_some_iff] at ev
      obtain ⟨d, e1, e2⟩ := ev
      cases e2
      obtain ⟨sH, fre⟩ := base si
      refine ⟨σ, Oc, d, si.rel.free si.ok si.oc (fun i p d a b q => (fre i p d a b q).1), si.okc.same sH, e1, fun v H' p => fin v H' (fun b x z _ => p.same _ _ (sH b x z)) fun _ => ⟨p.r (strong_nil e), fun hfr => ?_⟩⟩
      simp only [hfr, Bool.or_eq_true, Bool.not_true] at h2
      rcases h2 with (z | z) | z
      · cases z
      · exact (p.f z).back sH
      · cases e <;> first | (cases z; done) | skip
        exact absurd ⟨_, rfl, by simpa using z⟩ hv
  · cases h
theorem s_par {i j : Nat} {a b : E} {st : Stmt} (c : CtxS L T C k N sc X) (h : isS L N ow fr sc (.par i j a b) st = true) : PS X st (rdS X.K C NN H0 aNo Oc ow fr (.par i j a b)) := by
  unfold isS at h
  split at h
  · rename_i tg v pos
    simp only [Bool.and_eq_true] at h
    obtain ⟨⟨⟨h1, h2⟩, h3⟩, h4⟩ := h
    unfold parC at h1
    split at h1
    · rename_i x px y py kt pt a' b' k2 pt2
      simp only [Bool.and_eq_true, Bool.not_eq_true', bne_iff_ne, ne_eq, beq_iff_eq] at h1 h4
      obtain ⟨⟨⟨⟨⟨⟨⟨⟨⟨⟨⟨⟨q1, q2⟩, q3⟩, q4⟩, q5⟩, q6⟩, q7⟩, q8⟩, q9⟩, p1⟩, p2⟩, q10⟩, q11⟩ := h1
      obtain ⟨q12, q13⟩ := h4
      obtain ⟨g1, _⟩ := name_ok q1
      obtain ⟨g2, _⟩ := name_ok q2
      have hx : X.env.kindOf x = some .local := by show X.env.scope.names.lookup x = _; rw [c.hs]; exact q7
      have hy : X.env.kindOf y = some .local := by show X.env.scope.names.lookup y = _; rw [c.hs]; exact q8
      have hb : X.env.blockKind = .function := by unfold Env.blockKind; rw [c.hs, c.kind]; rfl
      have s1 : ([a', b'].any fun | .Starred .. => true | _ => false) = false := by
        cases a' <;> first | (cases p1; done) | skip
        all_goals (cases b' <;> first | rfl | (cases p2; done))
      have hw : swappedStores [.Tuple [.Name x px, .Name y py] kt pt] (.Tuple [a', b'] k2 pt2) X.env = pure (some [x, y]) := by
        unfold swappedStores
        simp only [hb, s1]
        have z1 : [a', b'].all (foldedForSure 8) = false := by simp [q10]
        have z2 : [a', b'].all (constantsAlone 8) = false := by simp [q11]
        simp [hx, hy, q9, z1, z2, q4, List.eraseDups_cons, PySem.Expr.pos]
        rw [if_neg (fun z => by
          rcases z with z | z
          · cases a' <;> first | (cases z; done) | (cases p1; done)
          · cases b' <;> first | (cases z; done) | (cases p2; done))]
        have yx : ¬ y = x := fun e => q4 e.symm
        simp [yx, List.eraseDups_cons]
      have pa : PA X [a', b'] (tCons (rdE X.K C ow L.fr a) (tCons (rdE X.K C ow L.fr b) tNil)) := pa_cons ((allE a).1 X sc _ c.cx c.hn c.hs q12) (pa_cons ((allE b).1 X sc _ c.cx c.hn c.hs q13) pa_nil (star_plain p2 _ _)) (star_plain p1 _ _)
      refine (ps_par c.cx.calm c.cx.nd (by rw [c.hn]; exact g1) (by rw [c.hn]; exact g2) q3 (by rw [c.hs]; exact q7) (by rw [c.hs]; exact q8) pa hw rfl).imp ?_
      rintro E σV H ⟨σ, O, o, si, ev, fin⟩
      simp only [evS, Option.bind_eq_some_iff] at ev
      obtain ⟨dx, e1, dy, e2, e3⟩ := ev
      cases e3
      refine ⟨σ, O, dx, si.rel, si.ok, e1, fun u H1 w1 => ⟨σ, O, dy, si.rel.same si.ok w1.same, si.ok.same w1.same, e2, fun v H2 w2 => ⟨u, v, rfl, ?_⟩⟩⟩
      have s12 := w1.same.trans w2.same
      have si2 := (si.same s12).shr (j := i) (by simpa using q5) ((w1.r h2).same (si.ok.same w1.same) w2.same)
      exact fin _ _ O (si2.shr (j := j) (by simpa using q6) (w2.r h3)) (.of_same s12)
    · cases h1
  · cases h
theorem s_callM {f i : Nat} {es : Es} {st : Stmt} (c : CtxS L T C k N sc X) (h : isS L N ow fr sc (.callM f i es) st = true) : PS X st (rdS X.K C NN H0 aNo Oc ow fr (.callM f i es)) := by
  unfold isS at h
  split at h
  · rename_i x px y py xs cpos pos
    simp only [Bool.and_eq_true, noDbg, Bool.not_eq_true'] at h
    obtain ⟨⟨⟨⟨⟨⟨⟨h1, h2⟩, h3⟩, h4, h5⟩, h6⟩, h7⟩, h8⟩, h9⟩ := h
    obtain ⟨fn, a, fd, ps, eT, hm, hk, hb, F, hmu, hfr⟩ := c.cx.fns f x h1
    have hg : Gl X x := by show X.env.scope.names.lookup _ = _; rw [c.hs]; exact glbC_iff h3
    have mu1 : fn.mu = true := by rw [← hmu]; exact h2
    refine (ps_expr (pe_call F c.cx.room hg hm hk hb .nil pass0 (pa_cons (p_name c h6) ((allEs es).1 X sc xs c.cx c.hn c.hs h9) rfl) h4 rfl (star_any _ _ h9)) rfl).imp ?_
    rintro E σV H ⟨σ, O, o, si, ev, fin⟩
    simp only [evS, Option.bind_eq_some_iff] at ev
    obtain ⟨ds, e1, d0, e2, d1, e3, e4⟩ := ev
    cases e4
    obtain ⟨v, hv, _, w'⟩ := si.rel.slot i d0 e2
    obtain ⟨p, rfl, hp, hc⟩ := w' (by simpa using h7)
    refine ⟨V.ref p, hv, σ, O, ds, si.rel, si.ok, e1, fun vs H' s wa ra => ?_⟩
    show spF X.K fn (C f) (V.ref p :: vs ++ []) H' _ E0
    rw [List.append_nil]
    unfold spF
    rw [if_pos mu1]
    have si2 := si.same s
    have hlen : ds.length + 1 = fn.np := by
      by_cases z : (d0 :: ds).length = fn.np
      · exact z
      · exact (c.cx.np f fn (d0 :: ds) _ eT z e3).elim
    refine ⟨p, vs, d0, ds, d1, O, rfl, si2.ok, hp, hc.same si.ok s, ra h8, hlen, e3, fun H2 hk2 hc2 => ?_⟩
    obtain ⟨si3, ev3⟩ := si2.putK (by simpa using h7) hv e2 hp hk2 hc2
    exact fin _ _ O si3 ((Evo.of_same s).trans ev3)
  · cases h
end
end Ev

set_option Elab.async false
set_option linter.all false
set_option maxRecDepth 100000
set_option maxHeartbeats 4000000
/-! EvL: all statements, all defs. -/
namespace Ev
open PySem PySem.Spec PyProof.Rows L2

section
variable {L : Lk} {T : Nat → Option Fn} {C : Nat → List D → Option D} {k : Nat} {N : List Str} {ow : List Nat} {fr : Bool} {sc : Scope} {X : Cx} {NN : Nat} {H0 : Hp} {Oc : AS}
theorem fin_to {K : PySem.W.Frag} {M : AS} {E E' : Ends} {H : Hp} {O : AS} {o : Out} (f : Fin K H0 M Oc ow fr H O E o) (h : ∀ σ H, E.nx σ H → E'.nx σ H) (h2 : E.rt = E'.rt) (h3 : E.bk = E'.bk) (h4 : E.ct = E'.ct) : Fin K H0 M Oc ow fr H O E' o := by
  cases o with
  | nx σ' => exact fun σV' H2 O2 i e => h _ _ (f σV' H2 O2 i e)
  | bk σ' => rw [Fin] at f ⊢; rw [← h3]; exact f
  | ct σ' => rw [Fin] at f ⊢; rw [← h4]; exact f
  | ret d => rw [Fin] at f ⊢; rw [← h2]; exact f
theorem s_for {t : Tg} {s : Src} {src : Es} {b : Ss} {st : Stmt} (c : CtxS L T C k N sc X) (hb : ∀ xs, isSs L N ow fr sc b xs = true → PSs X xs (rdSs X.K C NN H0 aNo Oc ow fr b)) (h : isS L N ow fr sc (.for_ t s src b) st = true) : PS X st (rdS X.K C NN H0 aNo Oc ow fr (.for_ t s src b)) := by
  unfold isS at h
  split at h
  · rename_i tg it body pos
    simp only [Bool.and_eq_true] at h
    obtain ⟨⟨⟨h1, h2⟩, h3⟩, h4⟩ := h
    obtain ⟨hi, hf⟩ := g_src (tg := tg) rfl (allEs src).2.1 (allEs src).1 c.cx c.hn c.hs h2
    refine (ps_for c.xe c.cx.calm hi (s_tg c.cx.calm c.cx.nd c.hn c.tg t tg h1) (hb body h4) (hf _)).imp ?_
    rintro E σV H ⟨σ, O, o, si, ev, fin⟩
    simp only [evS, Option.bind_eq_some_iff] at ev
    obtain ⟨ds, e1, its, e2, e3⟩ := ev
    refine ⟨σ, O, ds, its, si.rel, si.ok, e1, e2, fun J H1 s1 hlen _ is => ?_⟩
    have is := is h3
    let f : D → Sl → Option Out := fun d σ => (bindT t d σ).bind fun σ' => evSs C NN b σ'
    refine ⟨fun i m σV' H' => m = its.length - i ∧ i ≤ its.length ∧ ∃ σ' O', SI X.K H0 aNo Oc ow σV' σ' H' O' ∧ Evo H1 O H' O' ∧ forGo f (its.drop i) σ' = some o,
      ⟨its.length, by simp, Nat.zero_le _, σ, O, si.same s1, Evo.refl _ _, by simpa using e3⟩, ?_⟩
    rintro i m σV' H' ⟨rfl, hi', σ', O', si', ev', e4⟩
    obtain ⟨g1, g2, g3⟩ := is H' O' si'.ok ev' i
    by_cases hlt : i < its.length
    · refine .inr ⟨g1 hlt, fun σV2 H2 => ∃ σ2 O2, SI X.K H0 aNo Oc ow σV2 σ2 H2 O2 ∧ Evo H1 O H2 O2 ∧ forGo f (its.drop (i + 1)) σ2 = some o,
        fun σV2 H2 z => ⟨its.length - (i + 1), by omega, rfl, hlt, z⟩, fun x H3 hy => ?_⟩
      obtain ⟨s3, rx⟩ := g3 x H3 _ (List.getElem?_eq_getElem hlt) hy
      rw [List.drop_eq_getElem_cons hlt] at e4
      simp only [forGo, Option.bind_eq_some_iff] at e4
      obtain ⟨o2, e5, e6⟩ := e4
      have e5 : ((bindT t its[i] σ').bind fun σ' => evSs C NN b σ') = some o2 := e5
      simp only [Option.bind_eq_some_iff] at e5
      obtain ⟨σ3, e7, e8⟩ := e5
      have si3 := si'.same s3
      refine ⟨σ', O', _, σ3, si3.rel, si3.ok, rx, e7, fun σV3 r3 l3 k3 => ?_⟩
      have si4 := si3.tgt r3 (bind_out t _ σ' σ3 e7) k3 (tg_own t tg h1)
      refine ⟨σ3, O', o2, si4, e8, ?_⟩
      have ev3 : Evo H1 O H3 O' := ev'.trans (.of_same s3)
      cases o2 with
      | nx σ4 => exact fun σV4 H4 O4 i4 ev4 => ⟨σ4, O4, i4, ev3.trans ev4, e6⟩
      | ct σ4 => exact fun σV4 H4 O4 i4 ev4 => ⟨σ4, O4, i4, ev3.trans ev4, e6⟩
      | bk σ4 =>
        cases e6
        exact fun σV4 H4 O4 i4 ev4 => fin σV4 H4 O4 i4 ((Evo.of_same s1).trans (ev3.trans ev4))
      | ret d =>
        cases e6
        exact fin
    · have ei : i = its.length := by omega
      subst ei
      rw [List.drop_length] at e4
      cases e4
      exact .inl ⟨g2 (Nat.le_refl _), fin σV' H' O' si' ((Evo.of_same s1).trans ev')⟩
  · cases h
theorem s_whl {cnd : E} {b : Ss} {st : Stmt} (c : CtxS L T C k N sc X) (hb : ∀ xs, isSs L N ow fr sc b xs = true → PSs X xs (rdSs X.K C NN H0 aNo Oc ow fr b)) (h : isS L N ow fr sc (.whl cnd b) st = true) : PS X st (rdS X.K C NN H0 aNo Oc ow fr (.whl cnd b)) := by
  unfold isS at h
  split at h
  · rename_i x body pos
    simp only [Bool.and_eq_true] at h
    obtain ⟨h1, h2⟩ := h
    refine (ps_while c.xe ((allE cnd).2 X sc x c.cx c.hn c.hs h1) (hb body h2)).imp ?_
    rintro E σV H ⟨σ, O, o, si, ev, fin⟩
    simp only [evS] at ev
    refine ⟨fun m σV' H' => ∃ σ' O', SI X.K H0 aNo Oc ow σV' σ' H' O' ∧ Evo H O H' O' ∧ whlGo (fun σ => tst (evE C cnd σ)) (fun σ => evSs C NN b σ) m σ' = some o, ⟨NN, σ, O, si, Evo.refl _ _, ev⟩, ?_⟩
    rintro m σV' H' ⟨σ', O', si', ev', e4⟩
    cases m with
    | zero => cases e4
    | succ m =>
      simp only [whlGo, Option.bind_eq_some_iff] at e4
      obtain ⟨t, e5, e6⟩ := e4
      refine ⟨σ', O', t, si'.rel, si'.ok, tst_some e5, fun H1 s1 => ?_⟩
      have si1 := si'.same s1
      have ev1 := ev'.trans (.of_same s1)
      cases t with
      | false =>
        rw [if_neg Bool.false_ne_true] at e6
        cases e6
        exact iteF (fin σV' H1 O' si1 ev1)
      | true =>
        rw [if_pos rfl] at e6
        simp only [Option.bind_eq_some_iff] at e6
        obtain ⟨o2, e8, e9⟩ := e6
        refine iteT ⟨fun σV2 H2 => ∃ σ2 O2, SI X.K H0 aNo Oc ow σV2 σ2 H2 O2 ∧ Evo H O H2 O2 ∧ whlGo (fun σ => tst (evE C cnd σ)) (fun σ => evSs C NN b σ) m σ2 = some o, fun σV2 H2 z => ⟨m, by omega, z⟩, σ', O', o2, si1, e8, ?_⟩
        cases o2 with
        | nx σ4 => exact fun σV4 H4 O4 i4 ev4 => ⟨σ4, O4, i4, ev1.trans ev4, e9⟩
        | ct σ4 => exact fun σV4 H4 O4 i4 ev4 => ⟨σ4, O4, i4, ev1.trans ev4, e9⟩
        | bk σ4 =>
          cases e9
          exact fun σV4 H4 O4 i4 ev4 => fin σV4 H4 O4 i4 (ev1.trans ev4)
        | ret d =>
          cases e9
          exact fin
  · cases h
mutual
theorem allS (c : CtxS L T C k N sc X) : ∀ (s : S) (st : Stmt), isS L N ow fr sc s st = true → PS X st (rdS X.K C NN H0 aNo Oc ow fr s)
  | .asg _ _, _, h => s_asg c h
  | .asgO _ _, _, h => s_asgO c h
  | .newD _, _, h => s_newD c h
  | .mov _ _, _, h => s_mov c h
  | .unp _ _, _, h => s_unp c h
  | .par _ _ _ _, _, h => s_par c h
  | .aug _ _ _, _, h => s_aug c h
  | .app _ _, _, h => s_app c h
  | .appM _ _, _, h => s_appM c h
  | .ext _ _, _, h => s_ext c h
  | .setL _ _ _, _, h => s_setL c h
  | .setD _ _ _, _, h => by simp [isS] at h
  | .pop _, _, h => s_pop c h
  | .callM _ _ _, _, h => s_callM c h
  | .ifs cnd a b, st, h => by
    unfold isS at h
    split at h
    · simp only [Bool.and_eq_true] at h
      obtain ⟨⟨h1, h2⟩, h3⟩ := h
      refine (ps_if ((allE cnd).2 X sc _ c.cx c.hn c.hs h1) (allSs c a _ h2) (allSs c b _ h3)).imp ?_
      rintro E σV H ⟨σ, O, o, si, ev, fin⟩
      simp only [evS, Option.bind_eq_some_iff] at ev
      obtain ⟨t, e1, e2⟩ := ev
      refine ⟨σ, O, t, si.rel, si.ok, tst_some e1, fun H1 s1 => ?_⟩
      cases t with
      | true => exact iteT ⟨σ, O, o, si.same s1, e2, fin.step (.of_same s1)⟩
      | false => exact iteF ⟨σ, O, o, si.same s1, e2, fin.step (.of_same s1)⟩
    · cases h
  | .whl _ b, _, h => s_whl c (fun xs hx => allSs c b xs hx) h
  | .for_ _ _ _ b, _, h => s_for c (fun xs hx => allSs c b xs hx) h
  | .ret _, _, h => s_ret c h
  | .brk, st, h => by
    unfold isS at h
    split at h
    · refine ps_break.imp ?_
      rintro E σV H ⟨σ, O, o, si, ev, fin⟩
      cases ev
      exact fin σV H O si (Evo.refl _ _)
    · cases h
  | .cnt, st, h => by
    unfold isS at h
    split at h
    · refine ps_continue.imp ?_
      rintro E σV H ⟨σ, O, o, si, ev, fin⟩
      cases ev
      exact fin σV H O si (Evo.refl _ _)
    · cases h
  | .pass, st, h => by
    unfold isS at h
    split at h
    · refine ps_pass.imp ?_
      rintro E σV H ⟨σ, O, o, si, ev, fin⟩
      cases ev
      exact fin σV H O si (Evo.refl _ _)
    · cases h
  | .stuck, st, h => by
    refine ps_never.imp ?_
    rintro E σV H ⟨σ, O, o, si, ev, fin⟩
    cases ev
theorem allSs (c : CtxS L T C k N sc X) : ∀ (s : Ss) (st : List Stmt), isSs L N ow fr sc s st = true → PSs X st (rdSs X.K C NN H0 aNo Oc ow fr s)
  | .nil, xs, h => by
    unfold isSs at h
    split at h
    · refine pss_nil.imp ?_
      rintro E σV H ⟨σ, O, o, si, ev, fin⟩
      cases ev
      exact fin σV H O si (Evo.refl _ _)
    · cases h
  | .cons s ss, xs, h => by
    unfold isSs at h
    split at h
    · simp only [Bool.and_eq_true] at h
      refine (pss_cons (allS c s _ h.1) (allSs c ss _ h.2)).imp ?_
      rintro E σV H ⟨σ, O, o, si, ev, fin⟩
      simp only [evSs, Option.bind_eq_some_iff] at ev
      obtain ⟨o1, e1, e2⟩ := ev
      refine ⟨σ, O, o1, si, e1, ?_⟩
      cases o1 with
      | nx σ1 => exact fun σV1 H1 O1 i1 ev1 => ⟨σ1, O1, o, i1, e2, fin.step ev1⟩
      | ct σ1 => cases e2; exact fin
      | bk σ1 => cases e2; exact fin
      | ret d => cases e2; exact fin
    · cases h
end
end

/-! ### a def -/
/-- a def of the text and its term -/
def isFn (L : Lk) (N ps : List Str) (fn : Fn) (st : Stmt) : Bool :=
  !fn.mu && decide (ps.length = fn.np) && decide (N.length = fn.ns) && fn.own.all (fun i => decide (fn.np ≤ i)) && isSs L N fn.own fn.fr (defScope st) fn.body (defBody st)
/-- the facts of a text -/
structure Tab (L : Lk) (T : Nat → Option Fn) (C : Nat → List D → Option D) (k : Nat) (P : Program) (w : World) (K : PySem.W.Frag) (mg : Str → Option Value) (base : Heap) : Prop where
  fns : ∀ f x, L.fn.contains (f, x) = true → ∃ fn a fd ps, T f = some fn ∧ mg x = some (Value.ref a) ∧ PySem.W.keepIn K (Value.ref a) = true ∧ Binds K fd ps [] ∧
    FnOk P w K mg base CX0 k a fd ps (spF K fn (C f)) ∧ L.mu.contains f = fn.mu ∧ L.fr.contains f = fn.fr
  gls : ∀ g x, L.gl.contains (g, x) = true → ∃ v u, mg x = some u ∧ RelV v u ∧ ∀ H O, R K H O v (glD g)
  bls : ∀ x, L.bl.contains x = true → mg x = none
  mfs : ∀ x id, L.mf.contains (x, id) = true → mg x = some (Value.builtin id)
  np : ∀ f fn (ds : List D) (d : D), T f = some fn → ds.length ≠ fn.np → C f ds = some d → False
theorem ra_slots {K : PySem.W.Frag} {H : Hp} {O : AS} : ∀ {vs : List V} {ds : List D} (n : Nat), RA K H O vs ds → ∀ i d, sget (ds.map some ++ List.replicate n none) i = some d → ∃ v, (vs.map some ++ List.replicate n none)[i]? = some (some v) ∧ R K H O v d ∧ i < ds.length
  | _, _, n, .nil, i, d, h => by
    rw [sget_eq] at h
    simp only [List.map_nil, List.nil_append, List.getElem?_replicate] at h
    split at h <;> cases h
  | v :: vs, d0 :: ds, n, .cons h0 r, 0, d, h => by
    have : d0 = d := by simpa [sget] using h
    subst this
    exact ⟨v, rfl, h0, by simp⟩
  | v :: vs, d0 :: ds, n, .cons h0 r, i + 1, d, h => by
    obtain ⟨u, e1, e2, e3⟩ := ra_slots n r i d (by simpa [sget] using h)
    exact ⟨u, by simpa using e1, e2, by simpa using e3⟩
theorem fn_sound {L : Lk} {T : Nat → Option Fn} {C : Nat → List D → Option D} {k NN : Nat} {P : Program} {w : World} {K : PySem.W.Frag} {mg : Str → Option Value} {base : Heap} {x qual : Str} {st : Stmt} {f : Addr} {fd : FuncData} {N ps : List Str} {fn : Fn}
    (F : Fun K x qual st f fd) (S : FnScope N ps (defScope st)) (tab : Tab L T C k P w K mg base) (h : isFn L N ps fn st = true) : FnOk P w K mg base CX0 (k + 1) f fd ps (spF K fn (runFn C NN fn)) := by
  simp only [isFn, Bool.and_eq_true, Bool.not_eq_true', decide_eq_true_eq, List.all_eq_true] at h
  obtain ⟨⟨⟨⟨h1, h2⟩, h3⟩, h4⟩, h5⟩ := h
  refine F.ok S (fun vs H Q E z => ?_) (fun cdv A outer s H vs Q E hr z => ?_)
  · unfold spF at z
    rw [if_neg (by rw [h1]; exact Bool.false_ne_true)] at z
    obtain ⟨ds, r, O, ok, ra, e, _⟩ := z
    rw [ra.length, e, h2]
  · unfold spF at z
    rw [if_neg (by rw [h1]; exact Bool.false_ne_true)] at z
    obtain ⟨ds, r, Oc, ok, ra, hlen, ev, q⟩ := z
    have cx : Ctx L T C k (cxOf CX0 P w K mg base N qual (defScope st) f cdv A outer s H E).nox := ⟨rfl, S.nd, hr, tab.fns, tab.gls, tab.bls, tab.mfs, tab.np⟩
    have cs : CtxS L T C k N (defScope st) (cxOf CX0 P w K mg base N qual (defScope st) f cdv A outer s H E).nox := ⟨cx, rfl, rfl, S.kind, fun _ => rfl, PassesOwn.never⟩
    refine ⟨_, allSs (H0 := H) (Oc := Oc) (NN := NN) cs fn.body (defBody st) h5, ?_⟩
    unfold runFn at ev
    rw [if_pos hlen] at ev
    simp only [Option.bind_eq_some_iff] at ev
    obtain ⟨o, e1, e2⟩ := ev
    have hns : N.length - vs.length = fn.ns - fn.np := by rw [ra.length, hlen, h3]
    have si : SI K H aNo Oc fn.own (L2.start N vs) (ds.map some ++ List.replicate (fn.ns - fn.np) none) H Oc := by
      unfold L2.start
      rw [hns]
      refine ⟨⟨by simp [ra.length], fun i d g => ?_, fun i j d d' p n g1 g2 g3 g4 => ?_⟩, ok, fun b x e _ => e, fun j p d hj g e => ?_, ok, fun p z => z⟩
      · obtain ⟨v, a1, a2, a3⟩ := ra_slots _ ra i d g
        refine ⟨v, a1, fun _ => a2, fun z => ?_⟩
        have := h4 i z
        omega
      · obtain ⟨v, a1, a2, a3⟩ := ra_slots _ ra i d g3
        have := h4 i g1
        omega
      · obtain ⟨v, a1, a2, a3⟩ := ra_slots _ ra j d g
        have := h4 j hj
        omega
    refine ⟨_, Oc, o, si, e1, ?_⟩
    cases o with
    | nx σ' =>
      rw [h1] at e2
      have e2 : some PyData.none = some r := e2
      cases e2
      exact fun σV' H' O' i _ => q .non H' (fun b x e => i.kept b x e fun z => z) .non fun _ => trivial
    | ret d =>
      rw [h1] at e2
      have e2 : some d = some r := e2
      cases e2
      exact fun v H' kp z => q v H' (fun b x e => kp b x e fun z => z) (z fun p w => w).1 (z fun p w => w).2
    | bk => cases e2
    | ct => cases e2
end Ev

set_option Elab.async false
set_option linter.all false
set_option maxRecDepth 100000
set_option maxHeartbeats 4000000
/-! EvM: a text's defs by one induction on the calls' depth; a law's end. -/
namespace Ev
open PySem PySem.Spec PyProof.Rows L2

/-- a def as it stands behind the top -/
structure Def1 (L : Lk) (T : Nat → Option Fn) (K : PySem.W.Frag) (mg : Str → Option Value) (f : Nat) (x : Str) : Prop where
  ex : ∃ fn a fd ps N st, T f = some fn ∧ mg x = some (Value.ref a) ∧ Binds K fd ps [] ∧ Fun K x x st a fd ∧ FnScope N ps (defScope st) ∧ isFn L N ps fn st = true ∧ L.mu.contains f = fn.mu ∧ L.fr.contains f = fn.fr
structure Facts (L : Lk) (T : Nat → Option Fn) (K : PySem.W.Frag) (mg : Str → Option Value) : Prop where
  defs : ∀ f x, L.fn.contains (f, x) = true → Def1 L T K mg f x
  gls : ∀ g x, L.gl.contains (g, x) = true → ∃ v u, mg x = some u ∧ RelV v u ∧ ∀ H O, R K H O v (glD g)
  bls : ∀ x, L.bl.contains x = true → mg x = none
  mfs : ∀ x id, L.mf.contains (x, id) = true → mg x = some (Value.builtin id)
theorem sem_np {T : Nat → Option Fn} {NN : Nat} : ∀ (k f : Nat) (fn : Fn) (ds : List D) (d : D), T f = some fn → ds.length ≠ fn.np → fnSem T NN k f ds = some d → False
  | 0, _, _, _, _, _, _, h => by cases h
  | k + 1, f, fn, ds, d, hT, hl, h => by
    have h : ((T f).bind fun fn => runFn (fnSem T NN k) NN fn ds) = some d := h
    rw [hT] at h
    have h : runFn (fnSem T NN k) NN fn ds = some d := h
    unfold runFn at h
    rw [if_neg hl] at h
    cases h
theorem sp_none {K : PySem.W.Frag} {fn : Fn} {vs : List V} {H : Hp} {Q : VK} {E : XK} (h : spF K fn (fun _ => none) vs H Q E) : False := by
  unfold spF at h
  split at h
  · obtain ⟨_, _, _, _, _, _, _, _, _, _, _, _, e, _⟩ := h; cases e
  · obtain ⟨_, _, _, _, _, _, e, _⟩ := h; cases e
theorem tab_all {L : Lk} {T : Nat → Option Fn} {NN : Nat} {P : Program} {w : World} {K : PySem.W.Frag} {mg : Str → Option Value} {base : Heap} (F : Facts L T K mg) : ∀ k, Tab L T (fnSem T NN k) k P w K mg base
  | 0 => by
    refine ⟨fun f x h => ?_, F.gls, F.bls, F.mfs, fun f fn ds d a b c => sem_np 0 f fn ds d a b c⟩
    obtain ⟨fn, a, fd, ps, N, st, h1, h2, h3, h4, h5, h6, h7, h8⟩ := (F.defs f x h).ex
    exact ⟨fn, a, fd, ps, h1, h2, h4.kp, h3, ⟨fun vs H Q E z => (sp_none z).elim, fun A outer s H args us vs Q E _ _ _ _ z => (sp_none z).elim⟩, h7, h8⟩
  | k + 1 => by
    have ih := tab_all (NN := NN) (P := P) (w := w) (base := base) F k
    refine ⟨fun f x h => ?_, F.gls, F.bls, F.mfs, fun f fn ds d a b c => sem_np (k + 1) f fn ds d a b c⟩
    obtain ⟨fn, a, fd, ps, N, st, h1, h2, h3, h4, h5, h6, h7, h8⟩ := (F.defs f x h).ex
    have g := fn_sound (NN := NN) h4 h5 ih h6
    have e : fnSem T NN (k + 1) f = runFn (fnSem T NN k) NN fn := by
      funext ds
      show ((T f).bind fun fn => runFn (fnSem T NN k) NN fn ds) = _
      rw [h1]; rfl
    exact ⟨fn, a, fd, ps, h1, h2, h4.kp, h3, by rw [e]; exact g, h7, h8⟩

/-- a law's promise -/
def spLaw (K : PySem.W.Frag) : Sp := fun vs H Q _ => ∃ (a : Addr) (ns : List Int), vs = [V.ref a] ∧ SqL K H a (ns.map V.int) ∧ ns.length ≤ 63 ∧ (∀ z ∈ ns, Builtin.Int.intBits z ≤ 1048576) ∧ Only H ∧ ∀ H', Q (.bl true) H'
def roD (ns : List Int) : D := .dict [(.none, .list (ns.map PyData.int))]
theorem law_ok {L : Lk} {T : Nat → Option Fn} {NN k f : Nat} {x qual : Str} {fn : Fn} {P : Program} {w : World} {K : PySem.W.Frag} {mg : Str → Option Value} {base : Heap} {st : Stmt} {a : Addr} {fd : FuncData} {N ps : List Str} (F : Facts L T K mg) (Fu : Fun K x qual st a fd) (S : FnScope N ps (defScope st)) (hk : isFn L N ps fn st = true)
    (hT : T f = some fn) (hmu : fn.mu = false) (hnp : fn.np = 1)
    (hlaw : ∀ ns : List Int, ns.length ≤ 63 → (∀ z ∈ ns, Builtin.Int.intBits z ≤ 1048576) → fnSem T NN (k + 1) f [roD ns] = some (.bool true)) :
    FnOk P w K mg base CX0 (k + 1) a fd ps (spLaw K) := by
  have g := fn_sound (NN := NN) Fu S (tab_all (NN := NN) (P := P) (w := w) (base := base) F k) hk
  refine g.imp fun vs H Q E z => ?_
  obtain ⟨a, ns, rfl, hS, hl, hb, ho, q⟩ := z
  unfold spF
  rw [if_neg (by rw [hmu]; exact Bool.false_ne_true)]
  have e : fnSem T NN (k + 1) f [roD ns] = runFn (fnSem T NN k) NN fn [roD ns] := by
    show ((T f).bind fun fn => runFn (fnSem T NN k) NN fn [roD ns]) = _
    rw [hT]; rfl
  refine ⟨[roD ns], .bool true, aNo, .no _, .cons (.ro ?_) .nil, hnp.symm, by rw [← e]; exact hlaw ns hl hb, fun v H' _ r _ => ?_⟩
  · rcases hS with h | h
    · exact .inl ⟨h, fun z => z⟩
    · exact .inr h
  · cases r
    exact q H'
end Ev

set_option Elab.async false
set_option linter.all false
/-! EvP: reading the evaluator by simp. -/
namespace Ev.P
open PySem Ev
section
variable (C : Nat → List D → Option D) (N : Nat) (σ : Sl)
@[simp] theorem e_var (i : Nat) : evE C (.var i) σ = sget σ i := rfl
@[simp] theorem e_non : evE C .non σ = some .none := rfl
@[simp] theorem e_bl (b : Bool) : evE C (.bl b) σ = some (.bool b) := rfl
@[simp] theorem e_int (i : Int) : evE C (.int i) σ = some (.int i) := rfl
@[simp] theorem e_str (x) : evE C (.str x) σ = some (.str x) := rfl
@[simp] theorem e_glob (g : Nat) : evE C (.glob g) σ = some (glD g) := rfl
@[simp] theorem e_tup (es : Es) : evE C (.tup es) σ = (evEs C es σ).bind fun ds => some (.tuple ds) := rfl
@[simp] theorem e_lst (es : Es) : evE C (.lst es) σ = (evEs C es σ).bind fun ds => some (.list ds) := rfl
@[simp] theorem e_edic (b) : evE C (.edic b) σ = some (.dict []) := rfl
@[simp] theorem e_bin (o : Bop) (a b : E) : evE C (.bin o a b) σ = (evE C a σ).bind fun x => (evE C b σ).bind fun y => binop o x y := rfl
@[simp] theorem e_neg (a : E) : evE C (.neg a) σ = (evE C a σ).bind fun x => match x with | .int i => some (.int (-i)) | _ => none := rfl
@[simp] theorem e_not (a : E) : evE C (.not a) σ = (tst (evE C a σ)).bind fun b => some (.bool (!b)) := rfl
@[simp] theorem e_and (es : Es) : evE C (.and es) σ = evAnd C es σ := rfl
@[simp] theorem e_or (es : Es) : evE C (.or es) σ = evOr C es σ := rfl
@[simp] theorem e_cmp (o : Cop) (a b : E) : evE C (.cmp o a b) σ = (evE C a σ).bind fun x => (evE C b σ).bind fun y => cmpop o x y := rfl
@[simp] theorem e_chain (o o' : Cop) (a b c : E) : evE C (.chain o o' a b c) σ = (evE C a σ).bind fun x => (evE C b σ).bind fun y => (tst (cmpop o x y)).bind fun t =>
      if t then (evE C c σ).bind fun z => (tst (cmpop o' y z)).bind fun t' => some (.bool t') else some (.bool false) := rfl
@[simp] theorem e_ite (c a b : E) : evE C (.ite c a b) σ = (tst (evE C c σ)).bind fun t => if t then evE C a σ else evE C b σ := rfl
@[simp] theorem e_ix (a i : E) : evE C (.ix a i) σ = (evE C a σ).bind fun x => (evE C i σ).bind fun y => getD x y := rfl
@[simp] theorem e_sl (a lo hi : E) : evE C (.sl a lo hi) σ = (evE C a σ).bind fun x => (oi (isNop lo) (evE C lo σ)).bind fun l => (oi (isNop hi) (evE C hi σ)).bind fun h => cutD x l h := rfl
@[simp] theorem e_rev (a : E) : evE C (.rev a) σ = (evE C a σ).bind fun x => match x with | .list xs => some (.list xs.reverse) | _ => none := rfl
@[simp] theorem e_call (f : Nat) (w : Bool) (es : Es) : evE C (.call f w es) σ = (evEs C es σ).bind fun ds => (C f ds).bind fun r => if w && !pureD r then none else some r := rfl
@[simp] theorem e_blt (b : Blt) (es : Es) : evE C (.blt b es) σ = (evEs C es σ).bind fun ds => bltop b ds := rfl
@[simp] theorem e_isi (a : E) (t : Ty) : evE C (.isi a t) σ = (evE C a σ).bind fun x => if isRo x then none else some (.bool (isiD x t)) := rfl
@[simp] theorem e_comp (elt : E) (tg : Tg) (s : Src) (src : Es) (c : E) : evE C (.comp elt tg s src c) σ = (evEs C src σ).bind fun ds => (itemsOf s ds).bind fun its =>
      (compGo (fun d => (bindT tg d (swipe σ (tgOwn tg))).bind fun σ' => (oc (isNop c) (evE C c σ')).bind fun t => if t then (evE C elt σ').bind fun x => some (some x) else some none) its).bind fun r => some (.list r) := rfl
@[simp] theorem e_comp2 (elt : E) (t1 : Tg) (s1 : Src) (src1 : Es) (t2 : Tg) (s2 : Src) (src2 : Es) : evE C (.comp2 elt t1 s1 src1 t2 s2 src2) σ = (evEs C src1 σ).bind fun ds => (itemsOf s1 ds).bind fun its =>
      (catGo (fun d => (bindT t1 d (swipe σ (tgOwn t1 ++ tgOwn t2))).bind fun σ' => (evEs C src2 σ').bind fun es => (itemsOf s2 es).bind fun jts =>
        mapGo (fun e => (bindT t2 e (swipe σ' (tgOwn t2))).bind fun σ'' => evE C elt σ'') jts) its).bind fun r => if r.length ≤ lim then some (.list r) else none := rfl
@[simp] theorem es_nil : evEs C .nil σ = some [] := rfl
@[simp] theorem es_cons (e : E) (es : Es) : evEs C (.cons e es) σ = (evE C e σ).bind fun x => (evEs C es σ).bind fun xs => some (x :: xs) := rfl
@[simp] theorem and_one (e : E) : evAnd C (.cons e .nil) σ = evE C e σ := rfl
@[simp] theorem and_cons (e e' : E) (es : Es) : evAnd C (.cons e (.cons e' es)) σ = (tst (evE C e σ)).bind fun b => if b then evAnd C (.cons e' es) σ else some (.bool false) := rfl
@[simp] theorem or_one (e : E) : evOr C (.cons e .nil) σ = evE C e σ := rfl
@[simp] theorem or_cons (e e' : E) (es : Es) : evOr C (.cons e (.cons e' es)) σ = (tst (evE C e σ)).bind fun b => if b then some (.bool true) else evOr C (.cons e' es) σ := rfl
/-! statements -/
@[simp] theorem s_asg (i : Nat) (e : E) : evS C N (.asg i e) σ = (evE C e σ).bind fun d => some (.nx (sset σ i (some d))) := rfl
@[simp] theorem s_asgO (i : Nat) (e : E) : evS C N (.asgO i e) σ = (evE C e σ).bind fun d => match d with
    | .list l => some (.nx (sset σ i (some (.list l))))
    | _ => none := rfl
@[simp] theorem s_mov (i j : Nat) : evS C N (.mov i j) σ = (sget σ j).bind fun d => some (.nx (sset (sset σ j none) i (some d))) := rfl
@[simp] theorem s_unp (t : Tg) (e : E) : evS C N (.unp t e) σ = (evE C e σ).bind fun d => nxt (bindT t d σ) := rfl
@[simp] theorem s_par (i j : Nat) (a b : E) : evS C N (.par i j a b) σ = (evE C a σ).bind fun x => (evE C b σ).bind fun y => some (.nx (sset (sset σ i (some x)) j (some y))) := rfl
@[simp] theorem s_aug (i : Nat) (o : Bop) (e : E) : evS C N (.aug i o e) σ = (sget σ i).bind fun x => (evE C e σ).bind fun y => (augop o x y).bind fun z => some (.nx (sset σ i (some z))) := rfl
@[simp] theorem s_app (i : Nat) (e : E) : evS C N (.app i e) σ = (evE C e σ).bind fun x => (sget σ i).bind fun l => (appD l x).bind fun l' => some (.nx (sset σ i (some l'))) := rfl
@[simp] theorem s_appM (i j : Nat) : evS C N (.appM i j) σ = (sget σ j).bind fun x => (sget σ i).bind fun l => (appD l x).bind fun l' => some (.nx (sset (sset σ j none) i (some l'))) := rfl
@[simp] theorem s_ext (i : Nat) (e : E) : evS C N (.ext i e) σ = (evE C e σ).bind fun x => (sget σ i).bind fun l => (extD l x).bind fun l' => some (.nx (sset σ i (some l'))) := rfl
@[simp] theorem s_setL (i : Nat) (k e : E) : evS C N (.setL i k e) σ = (evE C e σ).bind fun x => (sget σ i).bind fun l => (evE C k σ).bind fun n => (setAt l n x).bind fun l' => some (.nx (sset σ i (some l'))) := rfl
@[simp] theorem s_pop (i : Nat) : evS C N (.pop i) σ = (sget σ i).bind fun l => (popD l).bind fun l' => some (.nx (sset σ i (some l'))) := rfl
@[simp] theorem s_callM (f i : Nat) (es : Es) : evS C N (.callM f i es) σ = (evEs C es σ).bind fun ds => (sget σ i).bind fun d => (C f (d :: ds)).bind fun d' => some (.nx (sset σ i (some d'))) := rfl
@[simp] theorem s_ifs (c : E) (a b : Ss) : evS C N (.ifs c a b) σ = (tst (evE C c σ)).bind fun t => if t then evSs C N a σ else evSs C N b σ := rfl
@[simp] theorem s_whl (c : E) (b : Ss) : evS C N (.whl c b) σ = whlGo (fun σ => tst (evE C c σ)) (fun σ => evSs C N b σ) N σ := rfl
@[simp] theorem s_for (t : Tg) (s : Src) (src : Es) (b : Ss) : evS C N (.for_ t s src b) σ = (evEs C src σ).bind fun ds => (itemsOf s ds).bind fun its => forGo (fun d σ => (bindT t d σ).bind fun σ' => evSs C N b σ') its σ := rfl
@[simp] theorem s_ret (e : E) : evS C N (.ret e) σ = (evE C e σ).bind fun d => some (.ret d) := rfl
@[simp] theorem s_brk : evS C N .brk σ = some (.bk σ) := rfl
@[simp] theorem s_cnt : evS C N .cnt σ = some (.ct σ) := rfl
@[simp] theorem s_pass : evS C N .pass σ = some (.nx σ) := rfl
@[simp] theorem s_stuck : evS C N .stuck σ = none := rfl
@[simp] theorem ss_nil : evSs C N .nil σ = some (.nx σ) := rfl
/-- what follows a statement -/
def thenS (ss : Ss) : Out → Option Out
  | .nx σ' => evSs C N ss σ'
  | o => some o
@[simp] theorem ss_cons (s : S) (ss : Ss) : evSs C N (.cons s ss) σ = (evS C N s σ).bind (thenS C N ss) := by
  show (evS C N s σ).bind _ = _
  congr 1
@[simp] theorem then_nx (ss : Ss) (σ' : Sl) : thenS C N ss (.nx σ') = evSs C N ss σ' := rfl
@[simp] theorem then_ret (ss : Ss) (d : D) : thenS C N ss (.ret d) = some (.ret d) := rfl
@[simp] theorem then_bk (ss : Ss) (σ' : Sl) : thenS C N ss (.bk σ') = some (.bk σ') := rfl
@[simp] theorem then_ct (ss : Ss) (σ' : Sl) : thenS C N ss (.ct σ') = some (.ct σ') := rfl
end
@[simp] theorem sget_zero (o : Option D) (σ : Sl) : sget (o :: σ) 0 = o := rfl
@[simp] theorem sget_succ (o : Option D) (σ : Sl) (n : Nat) : sget (o :: σ) (n + 1) = sget σ n := rfl
@[simp] theorem sset_zero (o x : Option D) (σ : Sl) : sset (o :: σ) 0 x = x :: σ := rfl
@[simp] theorem sset_succ (o x : Option D) (σ : Sl) (n : Nat) : sset (o :: σ) (n + 1) x = o :: sset σ n x := rfl
@[simp] theorem swipe_nil (σ : Sl) : swipe σ [] = σ := rfl
@[simp] theorem swipe_cons (σ : Sl) (v : Nat) (vs : List Nat) : swipe σ (v :: vs) = sset (swipe σ vs) v none := rfl
@[simp] theorem tst_bool (b : Bool) : tst (some (.bool b)) = some b := rfl
@[simp] theorem bind_some' {α β : Type} (a : α) (f : α → Option β) : (some a).bind f = f a := rfl
@[simp] theorem bindT_nm (i : Nat) (d : D) (σ : Sl) : bindT (.nm i) d σ = some (sset σ i (some d)) := rfl
@[simp] theorem bindT_tp (ts : Tgs) (xs : List D) (σ : Sl) : bindT (.tp ts) (.tuple xs) σ = bindTs ts xs σ := rfl
@[simp] theorem bindTs_nil (σ : Sl) : bindTs .nil [] σ = some σ := rfl
@[simp] theorem bindTs_cons (t : Tg) (ts : Tgs) (x : D) (xs : List D) (σ : Sl) : bindTs (.cons t ts) (x :: xs) σ = (bindT t x σ).bind fun σ' => bindTs ts xs σ' := rfl
@[simp] theorem tgOwn_nm (i : Nat) : tgOwn (.nm i) = [i] := rfl
@[simp] theorem tgOwn_tp (ts : Tgs) : tgOwn (.tp ts) = tgsOwn ts := rfl
@[simp] theorem tgsOwn_nil : tgsOwn .nil = [] := rfl
@[simp] theorem tgsOwn_cons (t : Tg) (ts : Tgs) : tgsOwn (.cons t ts) = tgOwn t ++ tgsOwn ts := rfl
@[simp] theorem nxt_some (σ : Sl) : nxt (some σ) = some (.nx σ) := rfl
@[simp] theorem oc_true (d : Option D) : oc true d = some true := rfl
@[simp] theorem oc_false (d : Option D) : oc false d = tst d := rfl
@[simp] theorem oi_true (d : Option D) : oi true d = some none := rfl
@[simp] theorem oi_int (i : Int) : oi false (some (.int i)) = some (some i) := rfl
@[simp] theorem nop_var (i : Nat) : isNop (.var i) = false := rfl
@[simp] theorem nop_non  : isNop (.non ) = false := rfl
@[simp] theorem nop_bl (b : Bool) : isNop (.bl b) = false := rfl
@[simp] theorem nop_int (i : Int) : isNop (.int i) = false := rfl
@[simp] theorem nop_glob (i : Nat) : isNop (.glob i) = false := rfl
@[simp] theorem nop_tup (e : Es) : isNop (.tup e) = false := rfl
@[simp] theorem nop_lst (e : Es) : isNop (.lst e) = false := rfl
@[simp] theorem nop_bin (o : Bop) (a b : E) : isNop (.bin o a b) = false := rfl
@[simp] theorem nop_neg (a : E) : isNop (.neg a) = false := rfl
@[simp] theorem nop_not (a : E) : isNop (.not a) = false := rfl
@[simp] theorem nop_and (e : Es) : isNop (.and e) = false := rfl
@[simp] theorem nop_or (e : Es) : isNop (.or e) = false := rfl
@[simp] theorem nop_cmp (o : Cop) (a b : E) : isNop (.cmp o a b) = false := rfl
@[simp] theorem nop_chain (o o2 : Cop) (a b c : E) : isNop (.chain o o2 a b c) = false := rfl
@[simp] theorem nop_ite (a b c : E) : isNop (.ite a b c) = false := rfl
@[simp] theorem nop_ix (a b : E) : isNop (.ix a b) = false := rfl
@[simp] theorem nop_call (f : Nat) (w : Bool) (e : Es) : isNop (.call f w e) = false := rfl
@[simp] theorem nop_blt (b : Blt) (e : Es) : isNop (.blt b e) = false := rfl
@[simp] theorem nop_isi (a : E) (t : Ty) : isNop (.isi a t) = false := rfl
@[simp] theorem nop_nop : isNop .nop = true := rfl
/-! operations -/
@[simp] theorem b_add (i j : Int) : binop .add (.int i) (.int j) = some (.int (i + j)) := rfl
@[simp] theorem b_sub (i j : Int) : binop .sub (.int i) (.int j) = some (.int (i - j)) := rfl
@[simp] theorem b_subb (i j : Bool) : binop .sub (.bool i) (.bool j) = some (.int (b2i i - b2i j)) := rfl
theorem b_mul {i j : Int} (h : mulOk i j = true) : binop .mul (.int i) (.int j) = some (.int (i * j)) := by simp [binop, h]
theorem b_fdiv {i j : Int} (h : divOk j = true) : binop .fdiv (.int i) (.int j) = some (.int (i.fdiv j)) := by simp [binop, h]
theorem b_mod {i j : Int} (h : 0 < j) : binop .mod (.int i) (.int j) = some (.int (i % j)) := by simp [binop, h]
theorem b_addt {xs ys : List D} (h : xs.length + ys.length ≤ lim) : binop .add (.tuple xs) (.tuple ys) = some (.tuple (xs ++ ys)) := by simp [binop, h]
theorem b_addl {xs ys : List D} (h : xs.length + ys.length ≤ lim) : binop .add (.list xs) (.list ys) = some (.list (xs ++ ys)) := by simp [binop, h]
@[simp] theorem c_lt (i j : Int) : cmpop .lt (.int i) (.int j) = some (.bool (decide (i < j))) := rfl
@[simp] theorem c_le (i j : Int) : cmpop .le (.int i) (.int j) = some (.bool (decide (i ≤ j))) := rfl
@[simp] theorem c_gt (i j : Int) : cmpop .gt (.int i) (.int j) = some (.bool (decide (j < i))) := rfl
@[simp] theorem c_ge (i j : Int) : cmpop .ge (.int i) (.int j) = some (.bool (decide (j ≤ i))) := rfl
@[simp] theorem c_is (x : D) (b : Bool) : cmpop .is x (.bool b) = some (.bool (isSame x (.bool b))) := by cases x <;> rfl
@[simp] theorem c_isN (x : D) : cmpop .is x .none = some (.bool (isSame x .none)) := by cases x <;> rfl
@[simp] theorem c_isnot (x : D) (b : Bool) : cmpop .isnot x (.bool b) = some (.bool (!isSame x (.bool b))) := by cases x <;> rfl
@[simp] theorem c_isnotN (x : D) : cmpop .isnot x .none = some (.bool (!isSame x .none)) := by cases x <;> rfl
@[simp] theorem isSame_bool (a b : Bool) : isSame (.bool a) (.bool b) = (a == b) := rfl
@[simp] theorem x_len_t (xs : List D) : bltop .len [.tuple xs] = some (.int xs.length) := rfl
@[simp] theorem x_len_l (xs : List D) : bltop .len [.list xs] = some (.int xs.length) := rfl
@[simp] theorem x_len_d (xs : List D) : bltop .len [.dict [(.none, .list xs)]] = some (.int xs.length) := rfl
@[simp] theorem x_int (i : Int) : bltop .int [.int i] = some (.int i) := rfl
@[simp] theorem x_abs (i : Int) : bltop .abs [.int i] = some (.int (i.natAbs : Int)) := rfl
@[simp] theorem x_gcd (i j : Int) : bltop .gcd [.int i, .int j] = some (.int (Int.gcd i j : Int)) := rfl
@[simp] theorem x_all (xs : List D) : bltop .all [.list xs] = (asBools xs).map fun ns => .bool (ns.all id) := rfl
@[simp] theorem x_any (xs : List D) : bltop .any [.list xs] = (asBools xs).map fun ns => .bool (ns.any id) := rfl
@[simp] theorem x_list_l (xs : List D) : bltop .list [.list xs] = some (.list xs) := rfl
@[simp] theorem x_list_t (xs : List D) : bltop .list [.tuple xs] = some (.list xs) := rfl
@[simp] theorem x_tuple_l (xs : List D) : bltop .tuple [.list xs] = some (.tuple xs) := rfl
@[simp] theorem x_tuple_t (xs : List D) : bltop .tuple [.tuple xs] = some (.tuple xs) := rfl
@[simp] theorem i_it_t (xs : List D) : itemsOf .it [.tuple xs] = some xs := rfl
@[simp] theorem i_it_l (xs : List D) : itemsOf .it [.list xs] = some xs := rfl
@[simp] theorem i_zip_t (xs ys : List D) : itemsOf .zip [.tuple xs, .tuple ys] = some (xs.zipWith (fun x y => .tuple [x, y]) ys) := rfl
@[simp] theorem i_zip_l (xs ys : List D) : itemsOf .zip [.list xs, .list ys] = some (xs.zipWith (fun x y => .tuple [x, y]) ys) := rfl
theorem i_rng {n : Int} (h0 : 0 ≤ n) (h : n ≤ lim) : itemsOf .rng [.int n] = some (rangeD 0 n.toNat) := by
  have h2 : -lim ≤ n := by unfold lim; omega
  show (if n ≤ lim ∧ -lim ≤ n then _ else _) = _
  rw [if_pos ⟨h, h2⟩]
theorem i_rng2 {a b : Int} (h1 : a ≤ lim) (h2 : -lim ≤ a) (h3 : b ≤ lim) (h4 : -lim ≤ b) : itemsOf .rng [.int a, .int b] = some (rangeD a (b - a).toNat) := by
  show (if a ≤ lim ∧ -lim ≤ a ∧ b ≤ lim ∧ -lim ≤ b then _ else _) = _
  rw [if_pos ⟨h1, h2, h3, h4⟩]
@[simp] theorem getD_t (xs : List D) (i : Int) : getD (.tuple xs) (.int i) = ixD xs i := rfl
@[simp] theorem getD_l (xs : List D) (i : Int) : getD (.list xs) (.int i) = ixD xs i := rfl
@[simp] theorem getD_d (xs : List D) (i : Int) : getD (.dict [(.none, .list xs)]) (.int i) = ixD xs i := rfl
@[simp] theorem isi_eq (d : D) (t : Ty) : isiD d t = isiD d t := rfl
theorem ixD_nat {xs : List D} {n : Nat} {x : D} (h : xs[n]? = some x) : ixD xs (n : Int) = some x := by
  have hl : n < xs.length := by
    rcases Nat.lt_or_ge n xs.length with h' | h'
    · exact h'
    · rw [List.getElem?_eq_none h'] at h; cases h
  have e : ixD xs (n : Int) = L2.atI xs n := rfl
  rw [e]; unfold L2.atI L2.ixN
  rw [if_pos (by omega), if_pos (by omega)]
  exact h
end Ev.P

set_option Elab.async false
set_option linter.all false
set_option maxRecDepth 100000
namespace Ev
open PySem
abbrev f_number : Nat := 1
abbrev f_is_integer : Nat := 80
abbrev f_is_number : Nat := 81
abbrev f_plus : Nat := 2
abbrev f_minus : Nat := 3
abbrev f_compare : Nat := 7
abbrev f_half : Nat := 10
abbrev f_is_interval : Nat := 82
abbrev f_middle_of : Nat := 13
abbrev f_width_of : Nat := 14
abbrev f_is_box : Nat := 147
abbrev f_box_middle : Nat := 148
abbrev f_box_widths : Nat := 149
abbrev f_longest : Nat := 150
abbrev f_with_interval : Nat := 151
abbrev f_halves : Nat := 152
abbrev f_corners : Nat := 153
abbrev f_l_cell : Nat := 35
abbrev f_l_draws : Nat := 36
abbrev f_l_is_int : Nat := 67
abbrev f_l_is_text : Nat := 102
abbrev f_l_is_number : Nat := 68
abbrev f_l_gcd : Nat := 37
abbrev f_l_frac : Nat := 38
abbrev f_l_add : Nat := 39
abbrev f_l_neg : Nat := 40
abbrev f_l_sub : Nat := 41
abbrev f_l_mul : Nat := 42
abbrev f_l_less : Nat := 43
abbrev f_l_least : Nat := 69
abbrev f_l_most : Nat := 70
abbrev f_l_same : Nat := 104
abbrev f_l_small : Nat := 71
abbrev f_l_span : Nat := 154
abbrev f_l_values : Nat := 89
abbrev f_l_middle : Nat := 78
abbrev f_l_box : Nat := 155
abbrev f_l_mid : Nat := 156
abbrev f_l_longest : Nat := 157
abbrev f_l_halves : Nat := 158
abbrev f_law_k43 : Nat := 159
def d_number : Fn := ⟨2, 3, [], false, false,
  (.cons (.ifs (.cmp .eq (.var 1) (.int 0)) (.cons .stuck .nil) .nil) (.cons (.asg 2 (.ite (.cmp .gt (.var 1) (.int 0)) (.blt .gcd (.cons (.var 0) (.cons (.var 1) .nil))) (.neg (.blt .gcd (.cons (.var 0) (.cons (.var 1) .nil)))))) (.cons (.ret (.tup (.cons (.bin .fdiv (.var 0) (.var 2)) (.cons (.bin .fdiv (.var 1) (.var 2)) .nil)))) .nil)))⟩
def d_is_integer : Fn := ⟨1, 1, [], false, false,
  (.cons (.ret (.and (.cons (.isi (.var 0) .int) (.cons (.not (.isi (.var 0) .bool)) .nil)))) .nil)⟩
def d_is_number : Fn := ⟨1, 3, [], false, false,
  (.cons (.ifs (.or (.cons (.not (.isi (.var 0) .tuple)) (.cons (.cmp .ne (.blt .len (.cons (.var 0) .nil)) (.int 2)) .nil))) (.cons (.ret (.bl false)) .nil) .nil) (.cons (.unp (.tp (.cons (.nm 1) (.cons (.nm 2) .nil))) (.var 0)) (.cons (.ret (.and (.cons (.call f_is_integer false (.cons (.var 1) .nil)) (.cons (.call f_is_integer false (.cons (.var 2) .nil)) (.cons (.cmp .gt (.var 2) (.int 0)) (.cons (.cmp .eq (.blt .gcd (.cons (.var 1) (.cons (.var 2) .nil))) (.int 1)) .nil)))))) .nil)))⟩
def d_plus : Fn := ⟨2, 2, [], false, false,
  (.cons (.ifs (.and (.cons (.cmp .eq (.ix (.var 0) (.int 1)) (.int 1)) (.cons (.cmp .eq (.ix (.var 1) (.int 1)) (.int 1)) .nil))) (.cons (.ret (.tup (.cons (.bin .add (.ix (.var 0) (.int 0)) (.ix (.var 1) (.int 0))) (.cons (.int 1) .nil)))) .nil) .nil) (.cons (.ret (.call f_number false (.cons (.bin .add (.bin .mul (.ix (.var 0) (.int 0)) (.ix (.var 1) (.int 1))) (.bin .mul (.ix (.var 1) (.int 0)) (.ix (.var 0) (.int 1)))) (.cons (.bin .mul (.ix (.var 0) (.int 1)) (.ix (.var 1) (.int 1))) .nil)))) .nil))⟩
def d_minus : Fn := ⟨2, 2, [], false, false,
  (.cons (.ret (.call f_plus false (.cons (.var 0) (.cons (.tup (.cons (.neg (.ix (.var 1) (.int 0))) (.cons (.ix (.var 1) (.int 1)) .nil))) .nil)))) .nil)⟩
def d_compare : Fn := ⟨2, 3, [], false, true,
  (.cons (.asg 2 (.bin .sub (.bin .mul (.ix (.var 0) (.int 0)) (.ix (.var 1) (.int 1))) (.bin .mul (.ix (.var 1) (.int 0)) (.ix (.var 0) (.int 1))))) (.cons (.ret (.bin .sub (.cmp .gt (.var 2) (.int 0)) (.cmp .lt (.var 2) (.int 0)))) .nil))⟩
def d_half : Fn := ⟨1, 1, [], false, false,
  (.cons (.ret (.call f_number false (.cons (.ix (.var 0) (.int 0)) (.cons (.bin .mul (.int 2) (.ix (.var 0) (.int 1))) .nil)))) .nil)⟩
def d_is_interval : Fn := ⟨1, 1, [], false, false,
  (.cons (.ifs (.or (.cons (.not (.isi (.var 0) .tuple)) (.cons (.cmp .ne (.blt .len (.cons (.var 0) .nil)) (.int 2)) .nil))) (.cons (.ret (.bl false)) .nil) .nil) (.cons (.ret (.and (.cons (.call f_is_number false (.cons (.ix (.var 0) (.int 0)) .nil)) (.cons (.call f_is_number false (.cons (.ix (.var 0) (.int 1)) .nil)) (.cons (.cmp .le (.call f_compare false (.cons (.ix (.var 0) (.int 0)) (.cons (.ix (.var 0) (.int 1)) .nil))) (.int 0)) .nil))))) .nil))⟩
def d_middle_of : Fn := ⟨1, 1, [], false, false,
  (.cons (.ret (.call f_half false (.cons (.call f_plus false (.cons (.ix (.var 0) (.int 0)) (.cons (.ix (.var 0) (.int 1)) .nil))) .nil))) .nil)⟩
def d_width_of : Fn := ⟨1, 1, [], false, false,
  (.cons (.ret (.call f_minus false (.cons (.ix (.var 0) (.int 1)) (.cons (.ix (.var 0) (.int 0)) .nil)))) .nil)⟩
def d_is_box : Fn := ⟨2, 3, [], false, false,
  (.cons (.ret (.and (.cons (.isi (.var 1) .tuple) (.cons (.cmp .eq (.blt .len (.cons (.var 1) .nil)) (.var 0)) (.cons (.blt .all (.cons (.comp (.call f_is_interval false (.cons (.var 2) .nil)) (.nm 2) .it (.cons (.var 1) .nil) .nop) .nil)) .nil))))) .nil)⟩
def d_box_middle : Fn := ⟨1, 2, [], false, false,
  (.cons (.ret (.blt .tuple (.cons (.comp (.call f_middle_of false (.cons (.var 1) .nil)) (.nm 1) .it (.cons (.var 0) .nil) .nop) .nil))) .nil)⟩
def d_box_widths : Fn := ⟨1, 2, [], false, false,
  (.cons (.ret (.blt .tuple (.cons (.comp (.call f_width_of false (.cons (.var 1) .nil)) (.nm 1) .it (.cons (.var 0) .nil) .nop) .nil))) .nil)⟩
def d_longest : Fn := ⟨1, 4, [], false, false,
  (.cons (.asg 1 (.call f_box_widths false (.cons (.var 0) .nil))) (.cons (.asg 2 (.int 0)) (.cons (.for_ (.nm 3) .rng (.cons (.int 1) (.cons (.blt .len (.cons (.var 1) .nil)) .nil)) (.cons (.ifs (.cmp .gt (.call f_compare false (.cons (.ix (.var 1) (.var 3)) (.cons (.ix (.var 1) (.var 2)) .nil))) (.int 0)) (.cons (.asg 2 (.var 3)) .nil) .nil) .nil)) (.cons (.ret (.var 2)) .nil))))⟩
def d_with_interval : Fn := ⟨3, 3, [], false, true,
  (.cons (.ret (.bin .add (.bin .add (.sl (.var 0) .nop (.var 1)) (.tup (.cons (.var 2) .nil))) (.sl (.var 0) (.bin .add (.var 1) (.int 1)) .nop))) .nil)⟩
def d_halves : Fn := ⟨2, 5, [], false, false,
  (.cons (.unp (.tp (.cons (.nm 3) (.cons (.nm 4) .nil))) (.ix (.var 0) (.var 1))) (.cons (.asg 2 (.call f_middle_of false (.cons (.ix (.var 0) (.var 1)) .nil))) (.cons (.ret (.tup (.cons (.call f_with_interval false (.cons (.var 0) (.cons (.var 1) (.cons (.tup (.cons (.var 3) (.cons (.var 2) .nil))) .nil)))) (.cons (.call f_with_interval false (.cons (.var 0) (.cons (.var 1) (.cons (.tup (.cons (.var 2) (.cons (.var 4) .nil))) .nil)))) .nil)))) .nil)))⟩
def d_corners : Fn := ⟨1, 7, [], false, false,
  (.cons (.asg 1 (.lst (.cons (.tup .nil) .nil))) (.cons (.for_ (.tp (.cons (.nm 2) (.cons (.nm 3) .nil))) .it (.cons (.var 0) .nil) (.cons (.asg 4 (.ite (.cmp .eq (.var 2) (.var 3)) (.lst (.cons (.var 2) .nil)) (.lst (.cons (.var 2) (.cons (.var 3) .nil))))) (.cons (.asg 1 (.comp2 (.bin .add (.var 5) (.tup (.cons (.var 6) .nil))) (.nm 5) .it (.cons (.var 1) .nil) (.nm 6) .it (.cons (.var 4) .nil))) .nil))) (.cons (.ret (.var 1)) .nil)))⟩
def d_l_cell : Fn := ⟨2, 2, [], false, false,
  (.cons (.ifs (.cmp .lt (.var 1) (.blt .len (.cons (.var 0) .nil))) (.cons (.ret (.ix (.var 0) (.var 1))) .nil) .nil) (.cons (.ret (.int 0)) .nil))⟩
def d_l_draws : Fn := ⟨2, 6, [2], false, true,
  (.cons (.asgO 2 (.lst .nil)) (.cons (.asg 3 (.var 0)) (.cons (.for_ (.nm 4) .rng (.cons (.var 1) .nil) (.cons (.ifs (.and (.cons (.cmp .ge (.var 0) (.bin .pow (.int 10) (.int 18))) (.cons (.cmp .gt (.var 3) (.int 0)) .nil))) (.cons (.app 2 (.bin .mod (.blt .int (.cons (.var 3) .nil)) (.int 4096))) (.cons (.asg 3 (.bin .fdiv (.var 3) (.int 4096))) .nil)) (.cons (.asg 5 (.bin .mod (.blt .int (.cons (.bin .add (.bin .mul (.var 0) (.int 48271)) (.bin .mul (.bin .add (.var 4) (.int 1)) (.int 69621))) .nil)) (.int 2147483647))) (.cons (.asg 5 (.bin .mod (.blt .int (.cons (.bin .add (.bin .add (.bin .mul (.var 5) (.var 5)) (.bin .mul (.var 5) (.int 16807))) (.bin .mul (.var 4) (.int 7919))) .nil)) (.int 2147483629))) (.cons (.asg 5 (.bin .mod (.blt .int (.cons (.bin .add (.bin .add (.bin .mul (.var 5) (.var 5)) (.var 0)) (.bin .mul (.int 13) (.var 4))) .nil)) (.int 2147483587))) (.cons (.app 2 (.bin .mod (.bin .fdiv (.var 5) (.int 7)) (.int 4096))) .nil))))) .nil)) (.cons (.ret (.var 2)) .nil))))⟩
def d_l_is_int : Fn := ⟨1, 1, [], false, false,
  (.cons (.ret (.and (.cons (.isi (.var 0) .int) (.cons (.not (.isi (.var 0) .bool)) .nil)))) .nil)⟩
def d_l_is_text : Fn := ⟨2, 2, [], false, false,
  (.cons (.ret (.and (.cons (.isi (.var 0) .str) (.cons (.cmp .eq (.var 0) (.var 1)) .nil)))) .nil)⟩
def d_l_is_number : Fn := ⟨2, 2, [], false, false,
  (.cons (.ret (.and (.cons (.call f_l_is_int false (.cons (.var 0) .nil)) (.cons (.cmp .eq (.var 0) (.var 1)) .nil)))) .nil)⟩
def d_l_gcd : Fn := ⟨2, 2, [], false, false,
  (.cons (.asg 0 (.blt .abs (.cons (.var 0) .nil))) (.cons (.asg 1 (.blt .abs (.cons (.var 1) .nil))) (.cons (.whl (.cmp .ne (.var 1) (.int 0)) (.cons (.par 0 1 (.var 1) (.bin .mod (.blt .int (.cons (.var 0) .nil)) (.var 1))) .nil)) (.cons (.ret (.var 0)) .nil))))⟩
def d_l_frac : Fn := ⟨2, 3, [], false, false,
  (.cons (.asg 2 (.call f_l_gcd false (.cons (.var 0) (.cons (.var 1) .nil)))) (.cons (.ifs (.cmp .lt (.var 1) (.int 0)) (.cons (.asg 2 (.neg (.var 2))) .nil) .nil) (.cons (.ret (.tup (.cons (.bin .fdiv (.var 0) (.var 2)) (.cons (.bin .fdiv (.var 1) (.var 2)) .nil)))) .nil)))⟩
def d_l_add : Fn := ⟨2, 2, [], false, false,
  (.cons (.ret (.call f_l_frac false (.cons (.bin .add (.bin .mul (.ix (.var 0) (.int 0)) (.ix (.var 1) (.int 1))) (.bin .mul (.ix (.var 1) (.int 0)) (.ix (.var 0) (.int 1)))) (.cons (.bin .mul (.ix (.var 0) (.int 1)) (.ix (.var 1) (.int 1))) .nil)))) .nil)⟩
def d_l_neg : Fn := ⟨1, 1, [], false, false,
  (.cons (.ret (.tup (.cons (.neg (.ix (.var 0) (.int 0))) (.cons (.ix (.var 0) (.int 1)) .nil)))) .nil)⟩
def d_l_sub : Fn := ⟨2, 2, [], false, false,
  (.cons (.ret (.call f_l_add false (.cons (.var 0) (.cons (.call f_l_neg false (.cons (.var 1) .nil)) .nil)))) .nil)⟩
def d_l_mul : Fn := ⟨2, 2, [], false, false,
  (.cons (.ret (.call f_l_frac false (.cons (.bin .mul (.ix (.var 0) (.int 0)) (.ix (.var 1) (.int 0))) (.cons (.bin .mul (.ix (.var 0) (.int 1)) (.ix (.var 1) (.int 1))) .nil)))) .nil)⟩
def d_l_less : Fn := ⟨2, 2, [], false, false,
  (.cons (.ret (.cmp .lt (.bin .mul (.ix (.var 0) (.int 0)) (.ix (.var 1) (.int 1))) (.bin .mul (.ix (.var 1) (.int 0)) (.ix (.var 0) (.int 1))))) .nil)⟩
def d_l_least : Fn := ⟨2, 2, [], false, false,
  (.cons (.ifs (.call f_l_less false (.cons (.var 1) (.cons (.var 0) .nil))) (.cons (.ret (.var 1)) .nil) .nil) (.cons (.ret (.var 0)) .nil))⟩
def d_l_most : Fn := ⟨2, 2, [], false, false,
  (.cons (.ifs (.call f_l_less false (.cons (.var 0) (.cons (.var 1) .nil))) (.cons (.ret (.var 1)) .nil) .nil) (.cons (.ret (.var 0)) .nil))⟩
def d_l_same : Fn := ⟨2, 3, [], false, false,
  (.cons (.ifs (.isi (.var 1) .tuple) (.cons (.ifs (.or (.cons (.not (.isi (.var 0) .tuple)) (.cons (.cmp .ne (.blt .len (.cons (.var 0) .nil)) (.blt .len (.cons (.var 1) .nil))) .nil))) (.cons (.ret (.bl false)) .nil) .nil) (.cons (.ret (.cmp .eq (.blt .len (.cons (.comp (.var 2) (.nm 2) .rng (.cons (.blt .len (.cons (.var 1) .nil)) .nil) (.not (.call f_l_same false (.cons (.ix (.var 0) (.var 2)) (.cons (.ix (.var 1) (.var 2)) .nil))))) .nil)) (.int 0))) .nil)) .nil) (.cons (.ifs (.isi (.var 1) .list) (.cons (.ifs (.or (.cons (.not (.isi (.var 0) .list)) (.cons (.cmp .ne (.blt .len (.cons (.var 0) .nil)) (.blt .len (.cons (.var 1) .nil))) .nil))) (.cons (.ret (.bl false)) .nil) .nil) (.cons (.ret (.cmp .eq (.blt .len (.cons (.comp (.var 2) (.nm 2) .rng (.cons (.blt .len (.cons (.var 1) .nil)) .nil) (.not (.call f_l_same false (.cons (.ix (.var 0) (.var 2)) (.cons (.ix (.var 1) (.var 2)) .nil))))) .nil)) (.int 0))) .nil)) .nil) (.cons (.ifs (.cmp .is (.var 1) .non) (.cons (.ret (.cmp .is (.var 0) .non)) .nil) .nil) (.cons (.ifs (.cmp .is (.var 1) (.bl true)) (.cons (.ret (.cmp .is (.var 0) (.bl true))) .nil) .nil) (.cons (.ifs (.cmp .is (.var 1) (.bl false)) (.cons (.ret (.cmp .is (.var 0) (.bl false))) .nil) .nil) (.cons (.ifs (.isi (.var 1) .int) (.cons (.ret (.call f_l_is_number false (.cons (.var 0) (.cons (.var 1) .nil)))) .nil) .nil) (.cons (.ret (.call f_l_is_text false (.cons (.var 0) (.cons (.var 1) .nil)))) .nil)))))))⟩
def d_l_small : Fn := ⟨1, 1, [], false, false,
  (.cons (.ret (.call f_l_frac false (.cons (.bin .sub (.bin .mod (.var 0) (.int 19)) (.int 9)) (.cons (.bin .add (.int 1) (.bin .mod (.bin .fdiv (.var 0) (.int 19)) (.int 4))) .nil)))) .nil)⟩
def d_l_span : Fn := ⟨2, 4, [], false, false,
  (.cons (.asg 2 (.call f_l_small false (.cons (.var 0) .nil))) (.cons (.asg 3 (.call f_l_small false (.cons (.var 1) .nil))) (.cons (.ifs (.cmp .eq (.bin .mod (.bin .fdiv (.var 0) (.int 76)) (.int 5)) (.int 1)) (.cons (.asg 3 (.var 2)) .nil) .nil) (.cons (.ret (.tup (.cons (.call f_l_least false (.cons (.var 2) (.cons (.var 3) .nil))) (.cons (.call f_l_most false (.cons (.var 2) (.cons (.var 3) .nil))) .nil)))) .nil))))⟩
def d_l_values : Fn := ⟨0, 1, [], false, true,
  (.cons (.asg 0 (.lst (.cons .non (.cons (.bl true) (.cons (.bl false) (.cons (.int 0) (.cons (.int 1) (.cons (.str "") (.cons (.str "1") (.cons (.tup .nil) (.cons (.tup (.cons (.int 1) .nil)) (.cons (.tup (.cons (.int 0) (.cons (.int 0) .nil))) (.cons (.tup (.cons (.int 1) (.cons (.int 0) .nil))) (.cons (.tup (.cons (.int 2) (.cons (.int 4) .nil))) (.cons (.tup (.cons (.neg (.int 3)) (.cons (.int 6) .nil))) (.cons (.tup (.cons (.int 1) (.cons (.neg (.int 1)) .nil))) (.cons (.tup (.cons (.bl true) (.cons (.int 1) .nil))) (.cons (.tup (.cons (.int 1) (.cons (.bl true) .nil))) .nil)))))))))))))))))) (.cons (.ret (.bin .add (.var 0) (.lst (.cons (.tup (.cons (.str "1") (.cons (.str "2") .nil))) (.cons (.tup (.cons (.int 1) (.cons (.int 2) (.cons (.int 3) .nil)))) (.cons (.lst (.cons (.int 1) (.cons (.int 2) .nil))) (.cons (.tup (.cons (.tup (.cons (.int 0) (.cons (.int 1) .nil))) (.cons (.tup (.cons (.int 1) (.cons (.int 1) .nil))) .nil))) (.cons (.tup (.cons (.tup (.cons (.int 1) (.cons (.int 1) .nil))) (.cons (.tup (.cons (.int 0) (.cons (.int 1) .nil))) .nil))) (.cons (.lst .nil) (.cons (.tup (.cons (.tup (.cons (.int 0) (.cons (.int 1) .nil))) .nil)) (.cons (.edic true) .nil))))))))))) .nil))⟩
def d_l_middle : Fn := ⟨2, 2, [], false, false,
  (.cons (.ret (.call f_l_mul false (.cons (.call f_l_add false (.cons (.var 0) (.cons (.var 1) .nil))) (.cons (.tup (.cons (.int 1) (.cons (.int 2) .nil))) .nil)))) .nil)⟩
def d_l_box : Fn := ⟨3, 4, [], false, false,
  (.cons (.ret (.blt .tuple (.cons (.comp (.call f_l_span false (.cons (.ix (.var 1) (.bin .mod (.bin .add (.var 2) (.bin .mul (.int 2) (.var 3))) (.blt .len (.cons (.var 1) .nil)))) (.cons (.ix (.var 1) (.bin .mod (.bin .add (.bin .add (.var 2) (.bin .mul (.int 2) (.var 3))) (.int 1)) (.blt .len (.cons (.var 1) .nil)))) .nil))) (.nm 3) .rng (.cons (.var 0) .nil) .nop) .nil))) .nil)⟩
def d_l_mid : Fn := ⟨1, 3, [], false, false,
  (.cons (.ret (.blt .tuple (.cons (.comp (.call f_l_middle false (.cons (.var 1) (.cons (.var 2) .nil))) (.tp (.cons (.nm 1) (.cons (.nm 2) .nil))) .it (.cons (.var 0) .nil) .nop) .nil))) .nil)⟩
def d_l_longest : Fn := ⟨1, 3, [], false, false,
  (.cons (.asg 1 (.int 0)) (.cons (.for_ (.nm 2) .rng (.cons (.blt .len (.cons (.var 0) .nil)) .nil) (.cons (.ifs (.call f_l_less false (.cons (.call f_l_sub false (.cons (.ix (.ix (.var 0) (.var 1)) (.int 1)) (.cons (.ix (.ix (.var 0) (.var 1)) (.int 0)) .nil))) (.cons (.call f_l_sub false (.cons (.ix (.ix (.var 0) (.var 2)) (.int 1)) (.cons (.ix (.ix (.var 0) (.var 2)) (.int 0)) .nil))) .nil))) (.cons (.asg 1 (.var 2)) .nil) .nil) .nil)) (.cons (.ret (.var 1)) .nil)))⟩
def d_l_halves : Fn := ⟨2, 3, [], false, false,
  (.cons (.asg 2 (.call f_l_middle false (.cons (.ix (.ix (.var 0) (.var 1)) (.int 0)) (.cons (.ix (.ix (.var 0) (.var 1)) (.int 1)) .nil)))) (.cons (.ret (.tup (.cons (.bin .add (.bin .add (.sl (.var 0) .nop (.var 1)) (.tup (.cons (.tup (.cons (.ix (.ix (.var 0) (.var 1)) (.int 0)) (.cons (.var 2) .nil))) .nil))) (.sl (.var 0) (.bin .add (.var 1) (.int 1)) .nop)) (.cons (.bin .add (.bin .add (.sl (.var 0) .nop (.var 1)) (.tup (.cons (.tup (.cons (.var 2) (.cons (.ix (.ix (.var 0) (.var 1)) (.int 1)) .nil))) .nil))) (.sl (.var 0) (.bin .add (.var 1) (.int 1)) .nop)) .nil)))) .nil))⟩
def d_law_k43 : Fn := ⟨1, 17, [], false, false,
  (.cons (.for_ (.nm 1) .rng (.cons (.int 2) .nil) (.cons (.asg 2 (.call f_l_draws false (.cons (.call f_l_cell false (.cons (.var 0) (.cons (.var 1) .nil))) (.cons (.int 14) .nil)))) (.cons (.asg 3 (.bin .add (.int 1) (.bin .mod (.ix (.var 2) (.int 0)) (.int 4)))) (.cons (.asg 4 (.call f_l_box false (.cons (.var 3) (.cons (.var 2) (.cons (.int 1) .nil))))) (.cons (.ifs (.and (.cons (.cmp .eq (.bin .mod (.ix (.var 2) (.int 10)) (.int 3)) (.int 1)) (.cons (.cmp .gt (.var 3) (.int 1)) .nil))) (.cons (.asg 4 (.bin .add (.sl (.var 4) .nop (.neg (.int 1))) (.tup (.cons (.blt .tuple (.cons (.comp (.call f_l_add false (.cons (.var 16) (.cons (.tup (.cons (.int 3) (.cons (.int 1) .nil))) .nil))) (.nm 16) .it (.cons (.ix (.var 4) (.int 0)) .nil) .nop) .nil)) .nil)))) .nil) .nil) (.cons (.ifs (.or (.cons (.cmp .isnot (.call f_is_box false (.cons (.var 3) (.cons (.var 4) .nil))) (.bl true)) (.cons (.cmp .isnot (.call f_is_box false (.cons (.bin .add (.bin .mod (.var 3) (.int 4)) (.int 1)) (.cons (.var 4) .nil))) (.bl false)) .nil))) (.cons (.ret (.bl false)) .nil) .nil) (.cons (.ifs (.or (.cons (.not (.call f_l_same false (.cons (.call f_box_middle false (.cons (.var 4) .nil)) (.cons (.call f_l_mid false (.cons (.var 4) .nil)) .nil)))) (.cons (.not (.call f_l_same false (.cons (.call f_box_widths false (.cons (.var 4) .nil)) (.cons (.blt .tuple (.cons (.comp (.call f_l_sub false (.cons (.var 11) (.cons (.var 10) .nil))) (.tp (.cons (.nm 10) (.cons (.nm 11) .nil))) .it (.cons (.var 4) .nil) .nop) .nil)) .nil)))) .nil))) (.cons (.ret (.bl false)) .nil) .nil) (.cons (.ifs (.not (.call f_l_is_number false (.cons (.call f_longest false (.cons (.var 4) .nil)) (.cons (.call f_l_longest false (.cons (.var 4) .nil)) .nil)))) (.cons (.ret (.bl false)) .nil) .nil) (.cons (.asg 5 (.bin .mod (.ix (.var 2) (.int 11)) (.var 3))) (.cons (.ifs (.not (.call f_l_same false (.cons (.call f_halves false (.cons (.var 4) (.cons (.var 5) .nil))) (.cons (.call f_l_halves false (.cons (.var 4) (.cons (.var 5) .nil))) .nil)))) (.cons (.ret (.bl false)) .nil) .nil) (.cons (.asg 6 (.lst (.cons (.tup .nil) .nil))) (.cons (.for_ (.tp (.cons (.nm 10) (.cons (.nm 11) .nil))) .it (.cons (.var 4) .nil) (.cons (.asg 12 (.lst (.cons (.var 10) (.cons (.var 11) .nil)))) (.cons (.ifs (.cmp .eq (.var 10) (.var 11)) (.cons (.asg 12 (.lst (.cons (.var 10) .nil))) .nil) .nil) (.cons (.asg 13 (.lst .nil)) (.cons (.for_ (.nm 14) .it (.cons (.var 6) .nil) (.cons (.asg 13 (.bin .add (.var 13) (.comp (.bin .add (.var 14) (.tup (.cons (.var 15) .nil))) (.nm 15) .it (.cons (.var 12) .nil) .nop))) .nil)) (.cons (.asg 6 (.var 13)) .nil)))))) (.cons (.ifs (.not (.call f_l_same false (.cons (.call f_corners false (.cons (.var 4) .nil)) (.cons (.var 6) .nil)))) (.cons (.ret (.bl false)) .nil) .nil) (.cons (.unp (.tp (.cons (.nm 10) (.cons (.nm 11) .nil))) (.ix (.var 4) (.var 5))) (.cons (.asg 7 (.lst (.cons (.tup (.cons (.call f_l_add false (.cons (.var 11) (.cons (.tup (.cons (.int 1) (.cons (.int 1) .nil))) .nil))) (.cons (.var 10) .nil))) (.cons (.lst (.cons (.var 10) (.cons (.var 11) .nil))) (.cons (.tup (.cons (.var 10) .nil)) (.cons (.var 10) (.cons (.tup (.cons (.tup (.cons (.bin .mul (.int 2) (.ix (.var 10) (.int 0))) (.cons (.bin .mul (.int 2) (.ix (.var 10) (.int 1))) .nil))) (.cons (.var 11) .nil))) (.cons .non .nil)))))))) (.cons (.ifs (.or (.cons (.cmp .isnot (.call f_is_box false (.cons (.var 3) (.cons (.bin .add (.bin .add (.sl (.var 4) .nop (.var 5)) (.tup (.cons (.ix (.var 7) (.bin .mod (.ix (.var 2) (.int 12)) (.int 6))) .nil))) (.sl (.var 4) (.bin .add (.var 5) (.int 1)) .nop)) .nil))) (.bl false)) (.cons (.cmp .isnot (.call f_is_box false (.cons (.var 3) (.cons (.blt .list (.cons (.var 4) .nil)) .nil))) (.bl false)) .nil))) (.cons (.ret (.bl false)) .nil) .nil) (.cons (.asg 8 (.call f_l_values false .nil)) (.cons (.asg 9 (.ix (.var 8) (.bin .mod (.ix (.var 2) (.int 13)) (.blt .len (.cons (.var 8) .nil))))) (.cons (.ifs (.cmp .isnot (.call f_is_box false (.cons (.var 3) (.cons (.var 9) .nil))) (.bl false)) (.cons (.ret (.bl false)) .nil) .nil) .nil))))))))))))))))))) (.cons (.ret (.bl true)) .nil))⟩
def T_k43 : Nat → Option Fn
  | 1 => some d_number
  | 80 => some d_is_integer
  | 81 => some d_is_number
  | 2 => some d_plus
  | 3 => some d_minus
  | 7 => some d_compare
  | 10 => some d_half
  | 82 => some d_is_interval
  | 13 => some d_middle_of
  | 14 => some d_width_of
  | 147 => some d_is_box
  | 148 => some d_box_middle
  | 149 => some d_box_widths
  | 150 => some d_longest
  | 151 => some d_with_interval
  | 152 => some d_halves
  | 153 => some d_corners
  | 35 => some d_l_cell
  | 36 => some d_l_draws
  | 67 => some d_l_is_int
  | 102 => some d_l_is_text
  | 68 => some d_l_is_number
  | 37 => some d_l_gcd
  | 38 => some d_l_frac
  | 39 => some d_l_add
  | 40 => some d_l_neg
  | 41 => some d_l_sub
  | 42 => some d_l_mul
  | 43 => some d_l_less
  | 69 => some d_l_least
  | 70 => some d_l_most
  | 104 => some d_l_same
  | 71 => some d_l_small
  | 154 => some d_l_span
  | 89 => some d_l_values
  | 78 => some d_l_middle
  | 155 => some d_l_box
  | 156 => some d_l_mid
  | 157 => some d_l_longest
  | 158 => some d_l_halves
  | 159 => some d_law_k43
  | _ => none
def L_k43 : Lk where
  fn := [(1, Str.ofString "number"), (80, Str.ofString "is_integer"), (81, Str.ofString "is_number"), (2, Str.ofString "plus"), (3, Str.ofString "minus"), (7, Str.ofString "compare"), (10, Str.ofString "half"), (82, Str.ofString "is_interval"), (13, Str.ofString "middle_of"), (14, Str.ofString "width_of"), (147, Str.ofString "is_box"), (148, Str.ofString "box_middle"), (149, Str.ofString "box_widths"), (150, Str.ofString "longest"), (151, Str.ofString "with_interval"), (152, Str.ofString "halves"), (153, Str.ofString "corners"), (35, Str.ofString "_law_cell"), (36, Str.ofString "_law_draws"), (67, Str.ofString "_law_is_int"), (102, Str.ofString "_law_is_text"), (68, Str.ofString "_law_is_number"), (37, Str.ofString "_law_gcd"), (38, Str.ofString "_law_frac"), (39, Str.ofString "_law_add"), (40, Str.ofString "_law_neg"), (41, Str.ofString "_law_sub"), (42, Str.ofString "_law_mul"), (43, Str.ofString "_law_less"), (69, Str.ofString "_law_least"), (70, Str.ofString "_law_most"), (104, Str.ofString "_law_same"), (71, Str.ofString "_law_small"), (154, Str.ofString "_law_span"), (89, Str.ofString "_law_values"), (78, Str.ofString "_law_middle"), (155, Str.ofString "_law_box"), (156, Str.ofString "_law_mid"), (157, Str.ofString "_law_longest"), (158, Str.ofString "_law_halves"), (159, Str.ofString "law")]
  fr := [7, 151, 36, 89]
  mu := []
  gl := []
  bl := [Str.ofString "abs", Str.ofString "all", Str.ofString "bool", Str.ofString "int", Str.ofString "isinstance", Str.ofString "len", Str.ofString "list", Str.ofString "range", Str.ofString "str", Str.ofString "tuple"]
  mf := [(Str.ofString "gcd", "math.gcd")]
end Ev

set_option Elab.async false
set_option linter.all false
namespace Ev
open PySem
abbrev TT := T_k43
abbrev NN : Nat := 1000000
theorem sem_of {k f : Nat} {fn : Fn} {ds : List D} (h : TT f = some fn) : fnSem TT NN (k + 1) f ds = runFn (fnSem TT NN k) NN fn ds := by
  show ((TT f).bind fun fn => runFn (fnSem TT NN k) NN fn ds) = _
  rw [h]; rfl
theorem runFn_of {C : Nat → List D → Option D} {np ns : Nat} {own : List Nat} {fr : Bool} {body : Ss} {ds : List D} (h : ds.length = np) : runFn C NN ⟨np, ns, own, false, fr, body⟩ ds = (evSs C NN body (ds.map some ++ List.replicate (ns - np) none)).bind fun o => match o with
    | .ret d => some d
    | .nx σ => some .none
    | _ => none := by
  unfold runFn
  rw [if_pos h]
  congr 1
@[simp] theorem rep_zero : List.replicate 0 (none : Option D) = [] := rfl
@[simp] theorem rep_succ (n : Nat) : List.replicate (n + 1) (none : Option D) = none :: List.replicate n none := rfl
end Ev

set_option Elab.async false
set_option linter.all false
namespace Ev
open PySem
/-! Nu: the numbers. -/
def qD (x : Rat) : D := .tuple [.int x.num, .int (x.den : Int)]
def sz (x : Rat) : Nat := max x.num.natAbs.log2 x.den.log2 + 1
theorem lt_two_log (n : Nat) : n < 2 ^ (n.log2 + 1) := Nat.lt_log2_self
theorem log2_of_lt {n m : Nat} (h : n < 2 ^ (m + 1)) : n.log2 ≤ m := by
  rcases Nat.eq_zero_or_pos n with h0 | h0
  · subst h0; simp
  · have := (Nat.log2_lt (Nat.ne_of_gt h0)).mpr h
    omega
theorem sz_num (x : Rat) : x.num.natAbs < 2 ^ sz x := by
  refine Nat.lt_of_lt_of_le (lt_two_log _) (Nat.pow_le_pow_right (by omega) ?_)
  unfold sz; omega
theorem sz_den (x : Rat) : x.den < 2 ^ sz x := by
  refine Nat.lt_of_lt_of_le (lt_two_log _) (Nat.pow_le_pow_right (by omega) ?_)
  unfold sz; omega
theorem sz_pos (x : Rat) : 0 < sz x := by unfold sz; omega
theorem sz_le {x : Rat} {n : Nat} (h0 : 0 < n) (h1 : x.num.natAbs < 2 ^ n) (h2 : x.den < 2 ^ n) : sz x ≤ n := by
  obtain ⟨m, rfl⟩ : ∃ m, n = m + 1 := ⟨n - 1, by omega⟩
  have a := log2_of_lt h1
  have b := log2_of_lt h2
  unfold sz; omega
theorem gcd_le {a b : Int} (hb : b ≠ 0) : Int.gcd a b ≤ b.natAbs := Nat.gcd_le_right _ (by omega)
theorem gcd_pos {a b : Int} (hb : b ≠ 0) : 0 < Int.gcd a b := Nat.gcd_pos_of_pos_right _ (by omega)
theorem divInt_num {a b : Int} (hb : b ≠ 0) : (Rat.divInt a b).num.natAbs ≤ a.natAbs := by
  rw [Rat.num_divInt]
  have e : (b.sign * a).natAbs = a.natAbs := by
    rw [Int.natAbs_mul, Int.natAbs_sign_of_ne_zero hb, Nat.one_mul]
  rw [← e]
  exact Int.natAbs_ediv_le_natAbs _ _
theorem divInt_den {a b : Int} (hb : b ≠ 0) : (Rat.divInt a b).den ≤ b.natAbs := by
  rw [Rat.den_divInt, if_neg hb]
  exact Nat.div_le_self _ _
theorem sz_divInt {a b : Int} {n : Nat} (hb : b ≠ 0) (h0 : 0 < n) (h1 : a.natAbs < 2 ^ n) (h2 : b.natAbs < 2 ^ n) : sz (Rat.divInt a b) ≤ n :=
  sz_le h0 (Nat.lt_of_le_of_lt (divInt_num hb) h1) (Nat.lt_of_le_of_lt (divInt_den hb) h2)
theorem den_ne (x : Rat) : (x.den : Int) ≠ 0 := by have := x.den_nz; omega
theorem den_pos (x : Rat) : (0 : Int) < x.den := by have := x.den_nz; omega
theorem add_divInt (x y : Rat) : x + y = Rat.divInt (x.num * y.den + y.num * x.den) (x.den * y.den) := by
  have := Rat.divInt_add_divInt x.num y.num (den_ne x) (den_ne y)
  rw [Rat.num_divInt_den, Rat.num_divInt_den] at this
  exact this
theorem mul_divInt (x y : Rat) : x * y = Rat.divInt (x.num * y.num) (x.den * y.den) := by
  have := Rat.divInt_mul_divInt x.num y.num (d₁ := x.den) (d₂ := y.den)
  rw [Rat.num_divInt_den, Rat.num_divInt_den] at this
  exact this
theorem mul_lt {a b : Int} {m n : Nat} (h1 : a.natAbs < 2 ^ m) (h2 : b.natAbs < 2 ^ n) : (a * b).natAbs < 2 ^ (m + n) := by
  rw [Int.natAbs_mul, Nat.pow_add]
  exact Nat.mul_lt_mul'' h1 h2
theorem den_mul_ne (x y : Rat) : (x.den * y.den : Int) ≠ 0 := Int.mul_ne_zero (den_ne x) (den_ne y)
theorem sz_mul (x y : Rat) : sz (x * y) ≤ sz x + sz y := by
  rw [mul_divInt]
  exact sz_divInt (den_mul_ne x y) (by have := sz_pos x; omega) (mul_lt (sz_num x) (sz_num y)) (mul_lt (sz_den x) (sz_den y))
theorem add_lt {a b : Int} {n : Nat} (h1 : a.natAbs < 2 ^ n) (h2 : b.natAbs < 2 ^ n) : (a + b).natAbs < 2 ^ (n + 1) := by
  have := Int.natAbs_add_le a b
  rw [Nat.pow_succ]; omega
theorem sz_add (x y : Rat) : sz (x + y) ≤ sz x + sz y + 1 := by
  rw [add_divInt]
  refine sz_divInt (den_mul_ne x y) (by omega) (add_lt (mul_lt (sz_num x) (sz_den y)) ?_) ?_
  · rw [Nat.add_comm]; exact mul_lt (sz_num y) (sz_den x)
  · refine Nat.lt_of_lt_of_le (mul_lt (sz_den x) (sz_den y)) (Nat.pow_le_pow_right (by omega) (by omega))
@[simp] theorem sz_neg (x : Rat) : sz (-x) = sz x := by unfold sz; simp
theorem sz_sub (x y : Rat) : sz (x - y) ≤ sz x + sz y + 1 := by
  rw [Rat.sub_eq_add_neg]
  have := sz_add x (-y)
  rw [sz_neg] at this; exact this
/-! what the interpreter asks -/
theorem mulOk_of {a b : Int} {m n : Nat} (h1 : a.natAbs < 2 ^ m) (h2 : b.natAbs < 2 ^ n) (h : m + n ≤ 90000000) : mulOk a b = true := by
  have e1 : a.natAbs.log2 ≤ m := by
    rcases Nat.eq_zero_or_pos m with h0 | h0
    · subst h0; simp at h1; simp [h1]
    · obtain ⟨k, rfl⟩ : ∃ k, m = k + 1 := ⟨m - 1, by omega⟩
      have := log2_of_lt h1; omega
  have e2 : b.natAbs.log2 ≤ n := by
    rcases Nat.eq_zero_or_pos n with h0 | h0
    · subst h0; simp at h2; simp [h2]
    · obtain ⟨k, rfl⟩ : ∃ k, n = k + 1 := ⟨n - 1, by omega⟩
      have := log2_of_lt h2; omega
  unfold mulOk
  exact decide_eq_true (by omega)
theorem divOk_of {b : Int} {n : Nat} (h0 : b ≠ 0) (h1 : b.natAbs < 2 ^ n) (h : n ≤ 9000) : divOk b = true := by
  have e1 : b.natAbs.log2 < 9000 := by
    rcases Nat.eq_zero_or_pos n with h0 | h0
    · subst h0; simp at h1; omega
    · obtain ⟨k, rfl⟩ : ∃ k, n = k + 1 := ⟨n - 1, by omega⟩
      have := log2_of_lt h1; omega
  unfold divOk
  rw [decide_eq_true h0, decide_eq_true e1]; rfl
theorem mulOk_nn {x y : Rat} (h : sz x + sz y ≤ 90000000) : mulOk x.num y.num = true := mulOk_of (sz_num x) (sz_num y) h
theorem mulOk_nd {x y : Rat} (h : sz x + sz y ≤ 90000000) : mulOk x.num y.den = true := mulOk_of (sz_num x) (sz_den y) h
theorem mulOk_dn {x y : Rat} (h : sz x + sz y ≤ 90000000) : mulOk x.den y.num = true := mulOk_of (sz_den x) (sz_num y) h
theorem mulOk_dd {x y : Rat} (h : sz x + sz y ≤ 90000000) : mulOk x.den y.den = true := mulOk_of (sz_den x) (sz_den y) h
/-! a fraction's lowest terms -/
theorem low_pos {a b : Int} (hb : 0 < b) : a.fdiv (Int.gcd a b) = (Rat.divInt a b).num ∧ b.fdiv (Int.gcd a b) = (Rat.divInt a b).den := by
  have hg : (0 : Int) ≤ (Int.gcd a b : Int) := by omega
  rw [Int.fdiv_eq_ediv_of_nonneg _ hg, Int.fdiv_eq_ediv_of_nonneg _ hg, Rat.num_divInt, Rat.den_divInt, if_neg (by omega), Int.sign_eq_one_of_pos hb, Int.one_mul, Int.gcd_comm b a]
  refine ⟨rfl, ?_⟩
  rw [Int.natCast_ediv]
  congr 1
  omega
theorem low_neg {a b : Int} (hb : b < 0) : a.fdiv (-(Int.gcd a b : Int)) = (Rat.divInt a b).num ∧ b.fdiv (-(Int.gcd a b : Int)) = (Rat.divInt a b).den := by
  have e := Rat.neg_divInt_neg a b
  have h := low_pos (a := -a) (b := -b) (by omega)
  rw [Int.neg_gcd, Int.gcd_neg, e] at h
  have n1 : ∀ c g : Int, c.fdiv (-g) = (-c).fdiv g := fun c g => by
    have := Int.neg_fdiv_neg (-c) (g)
    rw [Int.neg_neg] at this; exact this
  rw [n1, n1]; exact h
theorem number_sem {a b : Int} {k : Nat} (hb : b ≠ 0) (hs : b.natAbs < 2 ^ 9000) (hk : 1 ≤ k) : fnSem TT NN k f_number [.int a, .int b] = some (qD (Rat.divInt a b)) := by
  obtain ⟨k, rfl⟩ : ∃ j, k = j + 1 := ⟨k - 1, by omega⟩
  have hg := gcd_le (a := a) hb
  have hp := gcd_pos (a := a) hb
  have e0 : cmpop .eq (.int b) (.int 0) = some (.bool false) := by
    show some (PyData.bool (b == 0)) = _
    simp [hb]
  have d1 : divOk (Int.gcd a b : Int) = true := divOk_of (n := 9000) (by omega) (by omega) (by omega)
  have d2 : divOk (-(Int.gcd a b : Int)) = true := divOk_of (n := 9000) (by omega) (by omega) (by omega)
  rw [sem_of (fn := d_number) rfl, d_number, runFn_of (by rfl)]
  by_cases h : 0 < b
  · obtain ⟨l1, l2⟩ := low_pos (a := a) h
    simp [e0, h, P.b_fdiv d1, qD, l1, l2]
  · obtain ⟨l1, l2⟩ := low_neg (a := a) (b := b) (by omega)
    simp [e0, h, P.b_fdiv d2, qD, l1, l2]
end Ev

set_option Elab.async false
set_option linter.all false
namespace Ev
open PySem
/-! Nv: sums, products, orders of numbers; the law's own. -/
theorem suc {k n : Nat} (h : n + 1 ≤ k) : ∃ j, k = j + 1 ∧ n ≤ j := ⟨k - 1, by omega, by omega⟩
@[simp] theorem isSame_self_b (a : Bool) : isSame (.bool a) (.bool a) = true := by simp
@[simp] theorem ix0 (a : D) (xs : List D) : ixD (a :: xs) 0 = some a := P.ixD_nat (n := 0) rfl
@[simp] theorem ix1 (a b : D) (xs : List D) : ixD (a :: b :: xs) 1 = some b := P.ixD_nat (n := 1) rfl
theorem pow9 (n : Nat) (h : n ≤ 9000) : 2 ^ n ≤ 2 ^ 9000 := Nat.pow_le_pow_right (by omega) h
theorem den_prod (x y : Rat) (h : sz x + sz y ≤ 9000) : (x.den * y.den : Int).natAbs < 2 ^ 9000 :=
  Nat.lt_of_lt_of_le (mul_lt (sz_den x) (sz_den y)) (pow9 _ h)
@[simp] theorem c_eq (i j : Int) : cmpop .eq (.int i) (.int j) = some (.bool (i == j)) := rfl
@[simp] theorem c_ne (i j : Int) : cmpop .ne (.int i) (.int j) = some (.bool (!(i == j))) := rfl
theorem add_ints (x y : Rat) (hx : x.den = 1) (hy : y.den = 1) : (x + y).num = x.num + y.num ∧ (x + y).den = 1 := by
  rw [add_divInt, hx, hy]
  rw [Rat.num_divInt, Rat.den_divInt]
  simp
theorem plus_sem {x y : Rat} {k : Nat} (h : sz x + sz y ≤ 9000) (hk : 2 ≤ k) : fnSem TT NN k f_plus [qD x, qD y] = some (qD (x + y)) := by
  obtain ⟨k, rfl, hj⟩ := suc hk
  rw [sem_of (fn := d_plus) rfl, d_plus, runFn_of (by rfl)]
  by_cases hx : x.den = 1
  · by_cases hy : y.den = 1
    · obtain ⟨e1, e2⟩ := add_ints x y hx hy
      simp [qD, hx, hy, e1, e2]
    · have n := number_sem (a := x.num * y.den + y.num * x.den) (b := x.den * y.den) (k := k) (den_mul_ne x y) (den_prod x y h) hj
      rw [← add_divInt] at n
      rw [hx] at n
      have m1 : mulOk x.num y.den = true := mulOk_nd (by omega)
      have m2 : mulOk y.num 1 = true := by have := mulOk_nd (x := y) (y := x) (by omega); rwa [hx] at this
      have m3 : mulOk 1 y.den = true := by have := mulOk_dd (x := x) (y := y) (by omega); rwa [hx] at this
      have hy' : ((y.den : Int) == 1) = false := by simp; omega
      simp at n
      simp [qD, hx, hy', P.b_mul m1, P.b_mul m2, P.b_mul m3, n]
  · have n := number_sem (a := x.num * y.den + y.num * x.den) (b := x.den * y.den) (k := k) (den_mul_ne x y) (den_prod x y h) hj
    rw [← add_divInt] at n
    have m1 : mulOk x.num y.den = true := mulOk_nd (by omega)
    have m2 : mulOk y.num x.den = true := mulOk_nd (by omega)
    have m3 : mulOk x.den y.den = true := mulOk_dd (by omega)
    have hx' : ((x.den : Int) == 1) = false := by simp; omega
    simp [qD, hx', P.b_mul m1, P.b_mul m2, P.b_mul m3, n]
theorem minus_sem {x y : Rat} {k : Nat} (h : sz x + sz y ≤ 9000) (hk : 3 ≤ k) : fnSem TT NN k f_minus [qD x, qD y] = some (qD (x - y)) := by
  obtain ⟨k, rfl, hj⟩ := suc hk
  have n := plus_sem (x := x) (y := -y) (k := k) (by rw [sz_neg]; omega) hj
  rw [← Rat.sub_eq_add_neg] at n
  rw [sem_of (fn := d_minus) rfl, d_minus, runFn_of (by rfl)]
  simp [qD] at n
  simp [qD, n]
theorem half_eq (x : Rat) : Rat.divInt x.num (2 * x.den) = x / 2 := by
  have e : x / 2 = Rat.divInt x.num x.den * Rat.divInt 1 2 := by
    rw [Rat.num_divInt_den, Rat.divInt_eq_div 1 2, Rat.div_def, Rat.div_def]; simp
  rw [e, Rat.divInt_mul_divInt]
  congr 1
  · omega
  · omega
theorem sz_half (x : Rat) : sz (x / 2) ≤ sz x + 2 := by
  have e : x / 2 = x * Rat.divInt 1 2 := by
    rw [Rat.divInt_eq_div 1 2, Rat.div_def, Rat.div_def]; simp
  rw [e]
  have := sz_mul x (Rat.divInt 1 2)
  have : sz (Rat.divInt 1 2) ≤ 2 := sz_divInt (by decide) (by decide) (by decide) (by decide)
  omega
theorem half_sem {x : Rat} {k : Nat} (h : sz x ≤ 8000) (hk : 2 ≤ k) : fnSem TT NN k f_half [qD x] = some (qD (x / 2)) := by
  obtain ⟨k, rfl, hj⟩ := suc hk
  have hd : (2 * (x.den : Int)).natAbs < 2 ^ 9000 := by
    have := sz_den x
    have p := Nat.pow_le_pow_right (n := 2) (by omega) h
    have p2 : 2 ^ 8000 * 2 = 2 ^ 8001 := (Nat.pow_succ ..).symm
    have p3 := pow9 8001 (by omega)
    omega
  have n := number_sem (a := x.num) (b := 2 * x.den) (k := k) (by have := den_pos x; omega) hd hj
  rw [half_eq] at n
  have m1 : mulOk 2 x.den = true := mulOk_of (m := 2) (by decide) (sz_den x) (by omega)
  rw [sem_of (fn := d_half) rfl, d_half, runFn_of (by rfl)]
  simp [qD, P.b_mul m1, n]
/-- the order of two numbers as the program tells it -/
def cmpR (x y : Rat) : Int := b2i (decide (y < x)) - b2i (decide (x < y))
theorem cmpR_pos (x y : Rat) : (0 < cmpR x y) ↔ y < x := by
  unfold cmpR b2i
  have := @Rat.lt_irrefl
  by_cases h1 : y < x <;> by_cases h2 : x < y <;> simp [h1, h2]
  exact absurd (Rat.le_of_lt h2) (by rw [Rat.not_le]; exact h1)
theorem cmpR_le (x y : Rat) : (cmpR x y ≤ 0) ↔ x ≤ y := by
  rw [← Rat.not_lt, ← cmpR_pos]; omega
theorem compare_sem {x y : Rat} {k : Nat} (h : sz x + sz y ≤ 90000000) (hk : 1 ≤ k) : fnSem TT NN k f_compare [qD x, qD y] = some (.int (cmpR x y)) := by
  obtain ⟨k, rfl, hj⟩ := suc hk
  have m1 : mulOk x.num y.den = true := mulOk_nd h
  have m2 : mulOk y.num x.den = true := mulOk_nd (by omega)
  have e1 : decide (y.num * x.den < x.num * y.den) = decide (y < x) := by
    exact decide_eq_decide.mpr (by rw [Rat.lt_iff])
  have e2 : decide (x.num * y.den - y.num * x.den < 0) = decide (x < y) := by
    exact decide_eq_decide.mpr (by rw [Rat.lt_iff]; omega)
  rw [sem_of (fn := d_compare) rfl, d_compare, runFn_of (by rfl)]
  simp [qD, P.b_mul m1, P.b_mul m2, e1, e2, cmpR]
/-! the law's own numbers -/
section
def gC : Sl → Option Bool := fun σ => tst (evE (fnSem TT NN 0) (.cmp .ne (.var 1) (.int 0)) σ)
theorem gcd_loop (C : Nat → List D → Option D) : ∀ n a b m : Nat, b ≤ a → a * b < 2 ^ n → n + 1 ≤ m →
    whlGo (fun σ => tst (evE C (.cmp .ne (.var 1) (.int 0)) σ)) (fun σ => evSs C NN (.cons (.par 0 1 (.var 1) (.bin .mod (.blt .int (.cons (.var 0) .nil)) (.var 1))) .nil) σ) m [some (.int (a : Int)), some (.int (b : Int))] = some (.nx [some (.int (Nat.gcd a b : Int)), some (.int 0)])
  | n, a, 0, m + 1, _, _, _ => by
    unfold whlGo
    simp
  | 0, a, b + 1, m + 1, h, hl, _ => by
    exfalso
    have : 1 ≤ a * (b + 1) := Nat.mul_pos (by omega) (by omega)
    omega
  | n + 1, a, b + 1, m + 1, h, hl, hm => by
    have e : ((b + 1 : Nat) : Int) = (b : Int) + 1 := rfl
    have hr : 2 * (a % (b + 1)) ≤ a := by
      have h1 := Nat.mod_lt a (y := b + 1) (by omega)
      have h2 := Nat.div_add_mod a (b + 1)
      have h3 : 1 ≤ a / (b + 1) := (Nat.le_div_iff_mul_le (by omega)).mpr (by omega)
      have h4 : (b + 1) * 1 ≤ (b + 1) * (a / (b + 1)) := Nat.mul_le_mul_left _ h3
      omega
    have hp : (b + 1) * (a % (b + 1)) < 2 ^ n := by
      have : (b + 1) * (2 * (a % (b + 1))) ≤ (b + 1) * a := Nat.mul_le_mul_left _ hr
      rw [Nat.mul_comm (b + 1) a] at this
      rw [Nat.pow_succ] at hl
      have e2 : (b + 1) * (2 * (a % (b + 1))) = (b + 1) * (a % (b + 1)) * 2 := by rw [Nat.mul_comm 2, Nat.mul_assoc]
      omega
    have ih := gcd_loop C n (b + 1) (a % (b + 1)) m (Nat.le_of_lt (Nat.mod_lt a (by omega))) hp (by omega)
    have g : Nat.gcd (b + 1) (a % (b + 1)) = Nat.gcd a (b + 1) := by rw [Nat.gcd_comm a, Nat.gcd_rec (b + 1) a, Nat.gcd_comm]
    rw [g] at ih
    have md : binop .mod (.int (a : Int)) (.int ((b : Int) + 1)) = some (.int ((a % (b + 1) : Nat) : Int)) := by
      rw [P.b_mod (by omega)]; rfl
    have ne : (((b : Int) + 1) == 0) = false := by simp; omega
    unfold whlGo
    simp [md, ne]
    exact ih
end
theorem l_gcd_sem {a b : Int} {m n k : Nat} (ha : a.natAbs < 2 ^ m) (hb : b.natAbs < 2 ^ n) (h : m + n ≤ 900000) (hk : 1 ≤ k) : fnSem TT NN k f_l_gcd [.int a, .int b] = some (.int (Int.gcd a b : Int)) := by
  obtain ⟨k, rfl, hj⟩ := suc hk
  have key : ∀ (C : Nat → List D → Option D) (a b : Nat), a < 2 ^ m → b < 2 ^ n → whlGo (fun σ => tst (evE C (.cmp .ne (.var 1) (.int 0)) σ)) (fun σ => evSs C NN (.cons (.par 0 1 (.var 1) (.bin .mod (.blt .int (.cons (.var 0) .nil)) (.var 1))) .nil) σ) NN [some (.int (a : Int)), some (.int (b : Int))] = some (.nx [some (.int (Nat.gcd a b : Int)), some (.int 0)]) := by
    intro C a b ha hb
    have hab : a * b < 2 ^ (m + n) := by rw [Nat.pow_add]; exact Nat.mul_lt_mul'' ha hb
    rcases Nat.le_or_le b a with hl | hl
    · exact gcd_loop C (m + n) a b NN hl hab (by show _ ≤ 1000000; omega)
    · rcases Nat.eq_zero_or_pos b with h0 | h0
      · subst h0; exact gcd_loop C (m + n) a 0 NN (by omega) hab (by show _ ≤ 1000000; omega)
      · rcases Nat.lt_or_ge a b with h1 | h1
        · have g := gcd_loop C (m + n) b a 999999 (by omega) (by rw [Nat.mul_comm]; exact hab) (by omega)
          rw [Nat.gcd_comm b a] at g
          have md : binop .mod (.int (a : Int)) (.int (b : Int)) = some (.int (a : Int)) := by
            rw [P.b_mod (by omega)]
            rw [Int.emod_eq_of_lt (by omega) (by omega)]
          have ne : ((b : Int) == 0) = false := by simp; omega
          show whlGo _ _ (999999 + 1) _ = _
          rw [whlGo]
          simp only [P.e_cmp, P.e_var, P.e_int, P.sget_zero, P.sget_succ, P.bind_some', c_ne, ne, P.tst_bool, P.ss_cons, P.s_par, P.e_bin, P.e_blt, P.es_cons, P.es_nil, P.x_int, md, P.sset_zero, P.sset_succ, P.then_nx, P.ss_nil, Bool.not_false, if_true]
          exact g
        · have : a = b := by omega
          exact gcd_loop C (m + n) a b NN (by omega) hab (by show _ ≤ 1000000; omega)
  have kk := key (fnSem TT NN k) a.natAbs b.natAbs ha hb
  rw [sem_of (fn := d_l_gcd) rfl, d_l_gcd, runFn_of (by rfl)]
  simp at kk
  simp [kk]
  rfl
end Ev

set_option Elab.async false
set_option linter.all false
namespace Ev
open PySem
/-! Nw: the law's own numbers, and what is a number. -/
theorem l_frac_sem {a b : Int} {n k : Nat} (hb : b ≠ 0) (h1 : a.natAbs < 2 ^ n) (h2 : b.natAbs < 2 ^ n) (hn : n ≤ 9000) (hk : 2 ≤ k) : fnSem TT NN k f_l_frac [.int a, .int b] = some (qD (Rat.divInt a b)) := by
  obtain ⟨k, rfl, hj⟩ := suc hk
  have hg := gcd_le (a := a) hb
  have hp := gcd_pos (a := a) hb
  have d1 : divOk (Int.gcd a b : Int) = true := divOk_of (n := n) (by omega) (by omega) (by omega)
  have d2 : divOk (-(Int.gcd a b : Int)) = true := divOk_of (n := n) (by omega) (by omega) (by omega)
  have g := l_gcd_sem (a := a) (b := b) (k := k) h1 h2 (by omega) hj
  rw [sem_of (fn := d_l_frac) rfl, d_l_frac, runFn_of (by rfl)]
  by_cases h : b < 0
  · obtain ⟨l1, l2⟩ := low_neg (a := a) h
    simp [g, h, P.b_fdiv d2, qD, l1, l2]
  · obtain ⟨l1, l2⟩ := low_pos (a := a) (b := b) (by omega)
    simp [g, h, P.b_fdiv d1, qD, l1, l2]
theorem add_num_lt (x y : Rat) : (x.num * y.den + y.num * x.den).natAbs < 2 ^ (sz x + sz y + 1) :=
  add_lt (mul_lt (sz_num x) (sz_den y)) (by rw [Nat.add_comm]; exact mul_lt (sz_num y) (sz_den x))
theorem den_mul_lt (x y : Rat) : (x.den * y.den : Int).natAbs < 2 ^ (sz x + sz y) := mul_lt (sz_den x) (sz_den y)
theorem l_add_sem {x y : Rat} {k : Nat} (h : sz x + sz y ≤ 8999) (hk : 3 ≤ k) : fnSem TT NN k f_l_add [qD x, qD y] = some (qD (x + y)) := by
  obtain ⟨k, rfl, hj⟩ := suc hk
  have n := l_frac_sem (k := k) (den_mul_ne x y) (add_num_lt x y) (Nat.lt_of_lt_of_le (den_mul_lt x y) (Nat.pow_le_pow_right (by omega) (by omega))) (by omega) hj
  rw [← add_divInt] at n
  have m1 : mulOk x.num y.den = true := mulOk_nd (by omega)
  have m2 : mulOk y.num x.den = true := mulOk_nd (by omega)
  have m3 : mulOk x.den y.den = true := mulOk_dd (by omega)
  rw [sem_of (fn := d_l_add) rfl, d_l_add, runFn_of (by rfl)]
  simp [qD, P.b_mul m1, P.b_mul m2, P.b_mul m3, n]
theorem l_neg_sem {x : Rat} {k : Nat} (hk : 1 ≤ k) : fnSem TT NN k f_l_neg [qD x] = some (qD (-x)) := by
  obtain ⟨k, rfl, hj⟩ := suc hk
  rw [sem_of (fn := d_l_neg) rfl, d_l_neg, runFn_of (by rfl)]
  simp [qD]
theorem l_sub_sem {x y : Rat} {k : Nat} (h : sz x + sz y ≤ 8999) (hk : 4 ≤ k) : fnSem TT NN k f_l_sub [qD x, qD y] = some (qD (x - y)) := by
  obtain ⟨k, rfl, hj⟩ := suc hk
  have n := l_add_sem (x := x) (y := -y) (k := k) (by rw [sz_neg]; omega) hj
  rw [← Rat.sub_eq_add_neg] at n
  have m := l_neg_sem (x := y) (k := k) (by omega)
  rw [sem_of (fn := d_l_sub) rfl, d_l_sub, runFn_of (by rfl)]
  simp [m, n]
theorem l_mul_sem {x y : Rat} {k : Nat} (h : sz x + sz y ≤ 9000) (hk : 3 ≤ k) : fnSem TT NN k f_l_mul [qD x, qD y] = some (qD (x * y)) := by
  obtain ⟨k, rfl, hj⟩ := suc hk
  have n := l_frac_sem (k := k) (den_mul_ne x y) (mul_lt (sz_num x) (sz_num y)) (den_mul_lt x y) (by omega) hj
  rw [← mul_divInt] at n
  have m1 : mulOk x.num y.num = true := mulOk_nn (by omega)
  have m3 : mulOk x.den y.den = true := mulOk_dd (by omega)
  rw [sem_of (fn := d_l_mul) rfl, d_l_mul, runFn_of (by rfl)]
  simp [qD, P.b_mul m1, P.b_mul m3, n]
theorem l_less_sem {x y : Rat} {k : Nat} (h : sz x + sz y ≤ 9000) (hk : 1 ≤ k) : fnSem TT NN k f_l_less [qD x, qD y] = some (.bool (decide (x < y))) := by
  obtain ⟨k, rfl, hj⟩ := suc hk
  have m1 : mulOk x.num y.den = true := mulOk_nd (by omega)
  have m2 : mulOk y.num x.den = true := mulOk_nd (by omega)
  rw [sem_of (fn := d_l_less) rfl, d_l_less, runFn_of (by rfl)]
  simp [qD, P.b_mul m1, P.b_mul m2, Rat.lt_iff]
theorem l_least_sem {x y : Rat} {k : Nat} (h : sz x + sz y ≤ 9000) (hk : 2 ≤ k) : fnSem TT NN k f_l_least [qD x, qD y] = some (qD (if y < x then y else x)) := by
  obtain ⟨k, rfl, hj⟩ := suc hk
  have m := l_less_sem (x := y) (y := x) (k := k) (by omega) hj
  rw [sem_of (fn := d_l_least) rfl, d_l_least, runFn_of (by rfl)]
  by_cases c : y < x <;> simp [m, c]
theorem l_most_sem {x y : Rat} {k : Nat} (h : sz x + sz y ≤ 9000) (hk : 2 ≤ k) : fnSem TT NN k f_l_most [qD x, qD y] = some (qD (if x < y then y else x)) := by
  obtain ⟨k, rfl, hj⟩ := suc hk
  have m := l_less_sem (x := x) (y := y) (k := k) (by omega) hj
  rw [sem_of (fn := d_l_most) rfl, d_l_most, runFn_of (by rfl)]
  by_cases c : x < y <;> simp [m, c]
def isIntD : D → Bool
  | .int _ => true
  | _ => false
theorem isInt_eq (d : D) : (isiD d .int && !isiD d .bool) = isIntD d := by cases d <;> rfl
theorem is_integer_sem {d : D} {k : Nat} (hr : isRo d = false) (hk : 1 ≤ k) : fnSem TT NN k f_is_integer [d] = some (.bool (isIntD d)) := by
  obtain ⟨k, rfl, hj⟩ := suc hk
  rw [sem_of (fn := d_is_integer) rfl, d_is_integer, runFn_of (by rfl), ← isInt_eq]
  cases h : isiD d .int <;> simp [hr, h]
theorem l_is_int_sem {d : D} {k : Nat} (hr : isRo d = false) (hk : 1 ≤ k) : fnSem TT NN k f_l_is_int [d] = some (.bool (isIntD d)) := by
  obtain ⟨k, rfl, hj⟩ := suc hk
  rw [sem_of (fn := d_l_is_int) rfl, d_l_is_int, runFn_of (by rfl), ← isInt_eq]
  cases h : isiD d .int <;> simp [hr, h]
theorem l_is_number_sem {i j : Int} {k : Nat} (hk : 2 ≤ k) : fnSem TT NN k f_l_is_number [.int i, .int j] = some (.bool (i == j)) := by
  obtain ⟨k, rfl, hj⟩ := suc hk
  have m := l_is_int_sem (d := .int i) (k := k) rfl hj
  rw [sem_of (fn := d_l_is_number) rfl, d_l_is_number, runFn_of (by rfl)]
  simp [m, isIntD]
theorem is_number_sem {x : Rat} {k : Nat} (hk : 2 ≤ k) : fnSem TT NN k f_is_number [qD x] = some (.bool true) := by
  obtain ⟨k, rfl, hj⟩ := suc hk
  have m1 := is_integer_sem (d := .int x.num) (k := k) rfl hj
  have m2 := is_integer_sem (d := .int x.den) (k := k) rfl hj
  have g : Int.gcd x.num x.den = 1 := x.reduced
  have dp : 0 < x.den := by have := den_pos x; omega
  rw [sem_of (fn := d_is_number) rfl, d_is_number, runFn_of (by rfl)]
  simp [qD, m1, m2, isIntD, isRo, isiD, g, dp]
/-! same: a thing is the same as itself -/
mutual
def okS : D → Bool
  | .none | .bool _ | .int _ => true
  | .tuple xs => decide (xs.length ≤ lim) && okSs xs
  | .list xs => decide (xs.length ≤ lim) && okSs xs
  | _ => false
def okSs : List D → Bool
  | [] => true
  | x :: xs => okS x && okSs xs
end
theorem okSs_iff : ∀ {xs : List D}, okSs xs = true ↔ ∀ x ∈ xs, okS x = true
  | [] => by simp [okSs]
  | x :: xs => by simp [okSs, okSs_iff]
theorem compGo_none {f : D → Option (Option D)} : ∀ {l : List D}, (∀ d ∈ l, f d = some none) → compGo f l = some []
  | [], _ => rfl
  | d :: ds, h => by
    unfold compGo
    rw [h d (by simp), compGo_none fun e m => h e (by simp [m])]
    rfl
theorem compGo_map {α : Type} {f : D → Option (Option D)} {g h : α → D} : ∀ {l : List α}, (∀ a ∈ l, f (g a) = some (some (h a))) → compGo f (l.map g) = some (l.map h)
  | [], _ => rfl
  | d :: ds, e => by
    show compGo f (g d :: ds.map g) = _
    unfold compGo
    rw [e d (by simp), compGo_map fun a m => e a (by simp [m])]
    rfl
theorem depth_le : ∀ {xs : List D} {x : D}, x ∈ xs → x.depth ≤ PyData.depthAll xs
  | y :: ys, x, h => by
    unfold PyData.depthAll
    rcases List.mem_cons.mp h with rfl | h
    · omega
    · have := depth_le h; omega
theorem l_same_sem : ∀ {k : Nat} {d : D}, okS d = true → d.depth + 3 ≤ k → fnSem TT NN k f_l_same [d, d] = some (.bool true)
  | 0, _, _, h => by omega
  | k + 1, d, ok, h => by
    have seq : ∀ xs : List D, okSs xs = true → PyData.depthAll xs + 3 ≤ k → ∀ i x, xs[i]? = some x → fnSem TT NN k f_l_same [x, x] = some (.bool true) := fun xs h1 h2 i x e => by
      have m : x ∈ xs := List.mem_of_getElem? e
      exact l_same_sem (okSs_iff.mp h1 x m) (by have := depth_le m; omega)
    rw [sem_of (fn := d_l_same) rfl, d_l_same, runFn_of (by rfl)]
    cases d with
    | none => simp [isRo, isiD, isSame]
    | bool b => cases b <;> simp [isRo, isiD, isSame]
    | int i =>
      have := l_is_number_sem (i := i) (j := i) (k := k) (by omega)
      simp [isRo, isiD, isSame, this]
    | str x => cases ok
    | dict x => cases ok
    | tuple xs =>
      have o : xs.length ≤ lim ∧ okSs xs = true := by simpa [okS] using ok
      have s := seq xs o.2 (by have : PyData.depth (.tuple xs) = PyData.depthAll xs + 1 := rfl; omega)
      have r := P.i_rng (n := (xs.length : Int)) (by omega) (by omega)
      rw [Int.toNat_natCast] at r
      simp [isRo, isiD, r]
      rw [compGo_none]
      · simp
      · intro d hd
        unfold rangeD at hd
        obtain ⟨i, hi, rfl⟩ := List.mem_map.mp hd
        have hi := List.mem_range.mp hi
        have e : xs[i]? = some xs[i] := by simp [hi]
        have m := s i xs[i] e
        have e2 := P.ixD_nat e
        simp [e2, m]
    | list xs =>
      have o : xs.length ≤ lim ∧ okSs xs = true := by simpa [okS] using ok
      have s := seq xs o.2 (by have : PyData.depth (.list xs) = PyData.depthAll xs + 1 := rfl; omega)
      have r := P.i_rng (n := (xs.length : Int)) (by omega) (by omega)
      rw [Int.toNat_natCast] at r
      simp [isRo, isiD, r]
      rw [compGo_none]
      · simp
      · intro d hd
        unfold rangeD at hd
        obtain ⟨i, hi, rfl⟩ := List.mem_map.mp hd
        have hi := List.mem_range.mp hi
        have e : xs[i]? = some xs[i] := by simp [hi]
        have m := s i xs[i] e
        have e2 := P.ixD_nat e
        simp [e2, m]
end Ev

set_option Elab.async false
set_option linter.all false
namespace Ev
open PySem
/-! Bo: loops, lists of things, boxes. -/
theorem forGo_inv {f : D → Sl → Option Out} {a : Int} (I : Nat → Sl → Prop) : ∀ {n : Nat}, (∀ i σ, i < n → I i σ → ∃ σ', (f (.int (a + i)) σ = some (.nx σ') ∨ f (.int (a + i)) σ = some (.ct σ')) ∧ I (i + 1) σ') → ∀ {σ : Sl}, I 0 σ → ∃ σ', forGo f (rangeD a n) σ = some (.nx σ') ∧ I n σ' := by
  have key : ∀ (n : Nat) (s : Nat), (∀ i σ, i < s + n → I i σ → ∃ σ', (f (.int (a + i)) σ = some (.nx σ') ∨ f (.int (a + i)) σ = some (.ct σ')) ∧ I (i + 1) σ') → ∀ σ, I s σ → ∃ σ', forGo f ((List.range' s n).map fun (k : Nat) => PyData.int (a + k)) σ = some (.nx σ') ∧ I (s + n) σ' := by
    intro n
    induction n with
    | zero => intro s _ σ h; exact ⟨σ, rfl, h⟩
    | succ n ih =>
      intro s h σ hI
      obtain ⟨σ1, e1, h1⟩ := h s σ (by omega) hI
      obtain ⟨σ2, e2, h2⟩ := ih (s + 1) (fun i σ hi => h i σ (by omega)) σ1 h1
      refine ⟨σ2, ?_, by rw [show s + (n + 1) = s + 1 + n by omega]; exact h2⟩
      rw [List.range'_succ, List.map_cons]
      unfold forGo
      rcases e1 with e1 | e1
      · rw [e1]; exact e2
      · rw [e1]; exact e2
  intro n h σ h0
  have := key n 0 (fun i σ hi => h i σ (by omega)) σ h0
  rw [Nat.zero_add] at this
  unfold rangeD
  rw [List.range_eq_range']
  exact this
theorem forGo_list {α : Type} {f : D → Sl → Option Out} (g : α → D) (I : Nat → Sl → Prop) (l : List α) (h : ∀ i x σ, l[i]? = some x → I i σ → ∃ σ', f (g x) σ = some (.nx σ') ∧ I (i + 1) σ') {σ : Sl} (h0 : I 0 σ) : ∃ σ', forGo f (l.map g) σ = some (.nx σ') ∧ I l.length σ' := by
  have key : ∀ (r p : List α), l = p ++ r → ∀ σ, I p.length σ → ∃ σ', forGo f (r.map g) σ = some (.nx σ') ∧ I l.length σ' := by
    intro r
    induction r with
    | nil => intro p e σ h; exact ⟨σ, rfl, by rw [e, List.append_nil]; exact h⟩
    | cons x r ih =>
      intro p e σ hI
      obtain ⟨σ1, e1, h1⟩ := h p.length x σ (by rw [e]; simp) hI
      obtain ⟨σ2, e2, h2⟩ := ih (p ++ [x]) (by rw [e]; simp) σ1 (by simpa using h1)
      refine ⟨σ2, ?_, h2⟩
      rw [List.map_cons]
      unfold forGo
      rw [e1]; exact e2
  exact key l [] rfl σ h0
theorem compGo_ex {α : Type} {f : D → Option (Option D)} {g : α → D} {Q : α → Prop} : ∀ {l : List D}, (∀ d ∈ l, ∃ a, Q a ∧ f d = some (some (g a))) → ∃ r : List α, compGo f l = some (r.map g) ∧ r.length = l.length ∧ ∀ a ∈ r, Q a
  | [], _ => ⟨[], rfl, rfl, by simp⟩
  | d :: ds, h => by
    obtain ⟨a, qa, ea⟩ := h d (by simp)
    obtain ⟨r, er, hl, hq⟩ := compGo_ex (f := f) (g := g) (Q := Q) (l := ds) fun e m => h e (by simp [m])
    refine ⟨a :: r, ?_, by simp [hl], fun b m => ?_⟩
    · unfold compGo
      rw [ea, er]; rfl
    · rcases List.mem_cons.mp m with rfl | m
      · exact qa
      · exact hq b m
theorem mem_rangeD {a : Int} {n : Nat} {d : D} (h : d ∈ rangeD a n) : ∃ i : Nat, i < n ∧ d = .int (a + i) := by
  unfold rangeD at h
  obtain ⟨i, hi, rfl⟩ := List.mem_map.mp h
  exact ⟨i, List.mem_range.mp hi, rfl⟩
@[simp] theorem rangeD_len (a : Int) (n : Nat) : (rangeD a n).length = n := by simp [rangeD]
theorem asBools_map {α : Type} (g : α → Bool) : ∀ l : List α, asBools (l.map fun a => PyData.bool (g a)) = some (l.map g)
  | [] => rfl
  | x :: xs => by
    show (asBools (xs.map _)).map _ = _
    rw [asBools_map g xs]; rfl
/-! intervals -/
abbrev Iv := Rat × Rat
def iD (i : Iv) : D := .tuple [qD i.1, qD i.2]
def bxD (b : List Iv) : D := .tuple (b.map iD)
def szI (n : Nat) (i : Iv) : Prop := sz i.1 ≤ n ∧ sz i.2 ≤ n
theorem is_interval_sem {i : Iv} {k : Nat} (h : szI 1000 i) (hk : 3 ≤ k) : fnSem TT NN k f_is_interval [iD i] = some (.bool (decide (i.1 ≤ i.2))) := by
  obtain ⟨k, rfl, hj⟩ := suc hk
  have m1 := is_number_sem (x := i.1) (k := k) (by omega)
  have m2 := is_number_sem (x := i.2) (k := k) (by omega)
  have m3 := compare_sem (x := i.1) (y := i.2) (k := k) (by have := h.1; have := h.2; omega) (by omega)
  rw [sem_of (fn := d_is_interval) rfl, d_is_interval, runFn_of (by rfl)]
  simp [iD, m1, m2, m3, isiD, isRo, cmpR_le]
theorem middle_of_sem {i : Iv} {k : Nat} (h : szI 1000 i) (hk : 3 ≤ k) : fnSem TT NN k f_middle_of [iD i] = some (qD ((i.1 + i.2) / 2)) := by
  obtain ⟨k, rfl, hj⟩ := suc hk
  have m1 := plus_sem (x := i.1) (y := i.2) (k := k) (by have := h.1; have := h.2; omega) (by omega)
  have m2 := half_sem (x := i.1 + i.2) (k := k) (by have := sz_add i.1 i.2; have := h.1; have := h.2; omega) (by omega)
  rw [sem_of (fn := d_middle_of) rfl, d_middle_of, runFn_of (by rfl)]
  simp [iD, m1, m2]
theorem width_of_sem {i : Iv} {k : Nat} (h : szI 1000 i) (hk : 4 ≤ k) : fnSem TT NN k f_width_of [iD i] = some (qD (i.2 - i.1)) := by
  obtain ⟨k, rfl, hj⟩ := suc hk
  have m1 := minus_sem (x := i.2) (y := i.1) (k := k) (by have := h.1; have := h.2; omega) (by omega)
  rw [sem_of (fn := d_width_of) rfl, d_width_of, runFn_of (by rfl)]
  simp [iD, m1]
theorem l_middle_sem {i : Iv} {k : Nat} (h : szI 1000 i) (hk : 4 ≤ k) : fnSem TT NN k f_l_middle [qD i.1, qD i.2] = some (qD ((i.1 + i.2) / 2)) := by
  obtain ⟨k, rfl, hj⟩ := suc hk
  have m1 := l_add_sem (x := i.1) (y := i.2) (k := k) (by have := h.1; have := h.2; omega) (by omega)
  have e : (i.1 + i.2) * (1 / 2) = (i.1 + i.2) / 2 := by rw [Rat.div_def, Rat.div_def]; simp
  have hh : qD (1 / 2) = .tuple [.int 1, .int 2] := by
    have h1 : (1 / 2 : Rat).num = 1 := by decide +kernel
    have h2 : (1 / 2 : Rat).den = 2 := by decide +kernel
    simp only [qD, h1, h2]; rfl
  have m2 := l_mul_sem (x := i.1 + i.2) (y := 1 / 2) (k := k) (by have := sz_add i.1 i.2; have := h.1; have := h.2; have : sz (1 / 2) ≤ 3 := by decide +kernel
                                                                  omega) (by omega)
  rw [e, hh] at m2
  rw [sem_of (fn := d_l_middle) rfl, d_l_middle, runFn_of (by rfl)]
  simp [m1, m2]
/-! boxes -/
theorem box_middle_sem {b : List Iv} {k : Nat} (h : ∀ i ∈ b, szI 1000 i) (hk : 4 ≤ k) : fnSem TT NN k f_box_middle [bxD b] = some (.tuple (b.map fun i => qD ((i.1 + i.2) / 2))) := by
  obtain ⟨k, rfl, hj⟩ := suc hk
  rw [sem_of (fn := d_box_middle) rfl, d_box_middle, runFn_of (by rfl)]
  simp [bxD]
  rw [compGo_map (h := fun i => qD ((i.1 + i.2) / 2)) fun i m => by
    have m1 := middle_of_sem (k := k) (h i m) (by omega)
    simp [m1]]
  rfl
theorem box_widths_sem {b : List Iv} {k : Nat} (h : ∀ i ∈ b, szI 1000 i) (hk : 5 ≤ k) : fnSem TT NN k f_box_widths [bxD b] = some (.tuple (b.map fun i => qD (i.2 - i.1))) := by
  obtain ⟨k, rfl, hj⟩ := suc hk
  rw [sem_of (fn := d_box_widths) rfl, d_box_widths, runFn_of (by rfl)]
  simp [bxD]
  rw [compGo_map (h := fun i => qD (i.2 - i.1)) fun i m => by
    have m1 := width_of_sem (k := k) (h i m) (by omega)
    simp [m1]]
  rfl
theorem l_mid_sem {b : List Iv} {k : Nat} (h : ∀ i ∈ b, szI 1000 i) (hk : 5 ≤ k) : fnSem TT NN k f_l_mid [bxD b] = some (.tuple (b.map fun i => qD ((i.1 + i.2) / 2))) := by
  obtain ⟨k, rfl, hj⟩ := suc hk
  rw [sem_of (fn := d_l_mid) rfl, d_l_mid, runFn_of (by rfl)]
  simp [bxD]
  rw [compGo_map (h := fun i => qD ((i.1 + i.2) / 2)) fun i m => by
    have m1 := l_middle_sem (k := k) (h i m) (by omega)
    simp [iD, m1]]
  rfl
/-- is_box of a tuple whose things' tests are known -/
theorem is_box_gen {xs : List D} {g : D → Bool} {n : Int} {k : Nat} (h : ∀ x ∈ xs, fnSem TT NN k f_is_interval [x] = some (.bool (g x))) : fnSem TT NN (k + 1) f_is_box [.int n, .tuple xs] = some (.bool (decide ((xs.length : Int) = n) && xs.all g)) := by
  have e := compGo_map (g := fun x : D => x) (h := fun x => PyData.bool (g x)) (l := xs) (f := fun d => (bindT (.nm 2) d (swipe [some (.int n), some (.tuple xs), none] [2])).bind fun σ' => (oc true (evE (fnSem TT NN k) .nop σ')).bind fun t => if t then (evE (fnSem TT NN k) (.call f_is_interval false (.cons (.var 2) .nil)) σ').bind fun x => some (some x) else some none) (fun x m => by simp [h x m])
  rw [List.map_id'] at e
  simp at e
  rw [sem_of (fn := d_is_box) rfl, d_is_box, runFn_of (by rfl)]
  by_cases c : (xs.length : Int) = n
  · simp [isiD, isRo, c, e, asBools_map]
  · simp [isiD, isRo, c]
end Ev

set_option Elab.async false
set_option linter.all false
namespace Ev
open PySem
/-! Bp: the longest side, halves, corners. -/
theorem cut_to (xs : List D) (k : Nat) : cut xs none (some (k : Int)) = xs.take k := by
  unfold cut
  rw [HT.sIx_none, HT.sIx_nat]
  simp [List.take_eq_take_iff]
theorem cut_from (xs : List D) (k : Nat) : cut xs (some (k : Int)) none = xs.drop k := by
  unfold cut
  rw [HT.sIx_none, HT.sIx_nat]
  rw [List.take_of_length_le (by simp)]
  rcases Nat.le_or_le k xs.length with h | h
  · rw [Nat.min_eq_left h]
  · rw [Nat.min_eq_right h, List.drop_of_length_le (Nat.le_refl _), List.drop_of_length_le h]
def putD (xs : List D) (k : Nat) (x : D) : D := .tuple (xs.take k ++ ([x] ++ xs.drop (k + 1)))
theorem with_sem {xs : List D} {x : D} {n k : Nat} (h : xs.length ≤ 1000) (hk : 1 ≤ k) : fnSem TT NN k f_with_interval [.tuple xs, .int (n : Int), x] = some (putD xs n x) := by
  obtain ⟨k, rfl, hj⟩ := suc hk
  have a1 : binop .add (.tuple (xs.take n)) (.tuple [x]) = some (.tuple (xs.take n ++ [x])) := P.b_addt (by simp; unfold lim; omega)
  have a2 : binop .add (.tuple (xs.take n ++ [x])) (.tuple (xs.drop (n + 1))) = some (.tuple (xs.take n ++ [x] ++ xs.drop (n + 1))) := P.b_addt (by simp; unfold lim; omega)
  have c1 := cut_from xs (n + 1)
  have c2 := cut_to xs n
  simp at c1 c2
  rw [sem_of (fn := d_with_interval) rfl, d_with_interval, runFn_of (by rfl)]
  simp at a1 a2
  simp [cutD, c1, c2, a1, a2, putD]
def midR (i : Iv) : Rat := (i.1 + i.2) / 2
theorem bx_at {b : List Iv} {n : Nat} {i : Iv} (h : b[n]? = some i) : ixD (b.map iD) (n : Int) = some (iD i) := P.ixD_nat (by rw [List.getElem?_map, h]; rfl)
theorem halves_sem {b : List Iv} {n k : Nat} {i : Iv} (h : ∀ i ∈ b, szI 1000 i) (hl : b.length ≤ 1000) (hi : b[n]? = some i) (hk : 4 ≤ k) : fnSem TT NN k f_halves [bxD b, .int (n : Int)] = some (.tuple [putD (b.map iD) n (iD (i.1, midR i)), putD (b.map iD) n (iD (midR i, i.2))]) := by
  obtain ⟨k, rfl, hj⟩ := suc hk
  have m1 := middle_of_sem (k := k) (h i (List.mem_of_getElem? hi)) (by omega)
  have m2 := with_sem (xs := b.map iD) (x := iD (i.1, midR i)) (n := n) (k := k) (by simp; omega) (by omega)
  have m3 := with_sem (xs := b.map iD) (x := iD (midR i, i.2)) (n := n) (k := k) (by simp; omega) (by omega)
  have e := bx_at hi
  simp only [iD, midR] at m1 m2 m3 e
  rw [sem_of (fn := d_halves) rfl, d_halves, runFn_of (by rfl)]
  simp [bxD, e, m1, iD, midR]
  simp [m2, m3]
theorem l_halves_sem {b : List Iv} {n k : Nat} {i : Iv} (h : ∀ i ∈ b, szI 1000 i) (hl : b.length ≤ 1000) (hi : b[n]? = some i) (hk : 5 ≤ k) : fnSem TT NN k f_l_halves [bxD b, .int (n : Int)] = some (.tuple [putD (b.map iD) n (iD (i.1, midR i)), putD (b.map iD) n (iD (midR i, i.2))]) := by
  obtain ⟨k, rfl, hj⟩ := suc hk
  have m1 := l_middle_sem (i := i) (k := k) (h i (List.mem_of_getElem? hi)) (by omega)
  have e := bx_at hi
  have a1 : ∀ x : D, binop .add (.tuple ((b.map iD).take n)) (.tuple [x]) = some (.tuple ((b.map iD).take n ++ [x])) := fun x => P.b_addt (by simp; unfold lim; omega)
  have a2 : ∀ x : D, binop .add (.tuple ((b.map iD).take n ++ [x])) (.tuple ((b.map iD).drop (n + 1))) = some (.tuple ((b.map iD).take n ++ [x] ++ (b.map iD).drop (n + 1))) := fun x => P.b_addt (by simp; unfold lim; omega)
  have c1 := cut_from (b.map iD) (n + 1)
  have c2 := cut_to (b.map iD) n
  rw [show bxD b = .tuple (b.map iD) from rfl]
  generalize b.map iD = xs at *
  simp at c1 c2 a2
  rw [sem_of (fn := d_l_halves) rfl, d_l_halves, runFn_of (by rfl)]
  simp [e, iD, m1, cutD, c1, c2, a1, a2, putD, midR]
def wR (b : List Iv) (k : Nat) : Rat := match b[k]? with | some i => i.2 - i.1 | none => 0
def bestR (b : List Iv) : Nat → Nat
  | 0 => 0
  | j + 1 => if wR b (bestR b j) < wR b j then j else bestR b j
theorem bestR_lt (b : List Iv) : ∀ j, bestR b j ≤ j - 1
  | 0 => Nat.le_refl 0
  | j + 1 => by
    unfold bestR
    have := bestR_lt b j
    split <;> omega
theorem bestR_one (b : List Iv) : bestR b 1 = 0 := by
  unfold bestR bestR
  rw [if_neg Rat.lt_irrefl]
theorem wR_sz {b : List Iv} (h : ∀ i ∈ b, szI 1000 i) (k : Nat) : sz (wR b k) ≤ 2001 := by
  unfold wR
  split
  · rename_i i e
    have := h i (List.mem_of_getElem? e)
    have := sz_sub i.2 i.1
    have := this
    rename_i h1 _
    have := h1.1; have := h1.2
    omega
  · decide
theorem wR_at {b : List Iv} {n : Nat} {i : Iv} (h : b[n]? = some i) : wR b n = i.2 - i.1 := by unfold wR; rw [h]
theorem some_at {α : Type} {l : List α} {n : Nat} (h : n < l.length) : ∃ x, l[n]? = some x := ⟨l[n], by simp [h]⟩
theorem longest_sem {b : List Iv} {k : Nat} (h : ∀ i ∈ b, szI 1000 i) (h0 : 0 < b.length) (hl : b.length ≤ 1000) (hk : 6 ≤ k) : fnSem TT NN k f_longest [bxD b] = some (.int (bestR b b.length : Int)) := by
  obtain ⟨k, rfl, hj⟩ := suc hk
  have m1 := box_widths_sem (k := k) h (by omega)
  have r := P.i_rng2 (a := 1) (b := (b.length : Int)) (by decide) (by decide) (by unfold lim; omega) (by unfold lim; omega)
  have e : ((b.length : Int) - 1).toNat = b.length - 1 := by omega
  rw [e] at r
  have at_ : ∀ n, n < b.length → ixD (b.map fun i => qD (i.2 - i.1)) (n : Int) = some (qD (wR b n)) := fun n hn => by
    obtain ⟨i, hi⟩ := some_at hn
    refine P.ixD_nat ?_
    rw [List.getElem?_map, hi, wR_at hi]; rfl
  rw [sem_of (fn := d_longest) rfl, d_longest, runFn_of (by rfl)]
  simp [m1, r]
  obtain ⟨σ', e1, o, rfl⟩ := forGo_inv (a := 1) (n := b.length - 1) (f := fun d σ => (evS (fnSem TT NN k) NN (.ifs (.cmp .gt (.call f_compare false (.cons (.ix (.var 1) (.var 3)) (.cons (.ix (.var 1) (.var 2)) .nil))) (.int 0)) (.cons (.asg 2 (.var 3)) .nil) .nil) (sset σ 3 (some d))).bind (P.thenS (fnSem TT NN k) NN .nil))
    (fun i σ => ∃ o, σ = [some (bxD b), some (.tuple (b.map fun i => qD (i.2 - i.1))), some (.int (bestR b (i + 1) : Int)), o]) (fun i σ hi hI => by
      obtain ⟨o, rfl⟩ := hI
      have x1 := at_ (i + 1) (by omega)
      have x2 := at_ (bestR b (i + 1)) (by have := bestR_lt b (i + 1); omega)
      have x3 := compare_sem (x := wR b (i + 1)) (y := wR b (bestR b (i + 1))) (k := k) (by have := wR_sz h (i + 1); have := wR_sz h (bestR b (i + 1)); omega) (by omega)
      have e : (1 + (i : Int)) = ((i + 1 : Nat) : Int) := by omega
      rw [e]
      refine ⟨[some (bxD b), some (.tuple (b.map fun i => qD (i.2 - i.1))), some (.int (bestR b (i + 1 + 1) : Int)), some (.int ((i + 1 : Nat) : Int))], .inl ?_, ⟨_, rfl⟩⟩
      have u : bestR b (i + 1 + 1) = if wR b (bestR b (i + 1)) < wR b (i + 1) then i + 1 else bestR b (i + 1) := rfl
      simp only [P.s_ifs, P.e_cmp, P.e_call, P.es_cons, P.es_nil, P.e_ix, P.e_var, P.sset_zero, P.sset_succ, P.sget_zero, P.sget_succ, P.bind_some', P.getD_t, x1, x2, x3, P.e_int, Bool.false_and, Bool.false_eq_true, if_false, P.c_gt, P.tst_bool, cmpR_pos]
      rw [u]
      by_cases c : wR b (bestR b (i + 1)) < wR b (i + 1) <;> simp [c]) (σ := [some (bxD b), some (.tuple (b.map fun i => qD (i.2 - i.1))), some (.int 0), none]) ⟨none, by rw [bestR_one]; rfl⟩
  simp at e1
  have u : b.length - 1 + 1 = b.length := by omega
  simp [e1, u]

theorem for_rng {f : D → Sl → Option Out} {a : Int} {n : Nat} {σ : Sl} {g : Out → Option Out} {g2 : Out → Option D} {R : Option D} (I : Nat → Sl → Prop) (h0 : I 0 σ) (h1 : ∀ i σ, i < n → I i σ → ∃ σ', (f (.int (a + i)) σ = some (.nx σ') ∨ f (.int (a + i)) σ = some (.ct σ')) ∧ I (i + 1) σ') (h2 : ∀ σ', I n σ' → (g (.nx σ')).bind g2 = R) :
    ((forGo f (rangeD a n) σ).bind g).bind g2 = R := by
  obtain ⟨σ', e, hI⟩ := forGo_inv I h1 h0
  rw [e]; exact h2 σ' hI
theorem for_rng1 {f : D → Sl → Option Out} {a : Int} {n : Nat} {σ : Sl} {g : Out → Option Out} {R : Option Out} (I : Nat → Sl → Prop) (h0 : I 0 σ) (h1 : ∀ i σ, i < n → I i σ → ∃ σ', (f (.int (a + i)) σ = some (.nx σ') ∨ f (.int (a + i)) σ = some (.ct σ')) ∧ I (i + 1) σ') (h2 : ∀ σ', I n σ' → g (.nx σ') = R) :
    (forGo f (rangeD a n) σ).bind g = R := by
  obtain ⟨σ', e, hI⟩ := forGo_inv I h1 h0
  rw [e]; exact h2 σ' hI
theorem for_lst {α : Type} {f : D → Sl → Option Out} {gg : α → D} {l : List α} {σ : Sl} {g : Out → Option Out} {g2 : Out → Option D} {R : Option D} (I : Nat → Sl → Prop) (h0 : I 0 σ) (h1 : ∀ i x σ, l[i]? = some x → I i σ → ∃ σ', f (gg x) σ = some (.nx σ') ∧ I (i + 1) σ') (h2 : ∀ σ', I l.length σ' → (g (.nx σ')).bind g2 = R) :
    ((forGo f (l.map gg) σ).bind g).bind g2 = R := by
  obtain ⟨σ', e, hI⟩ := forGo_list gg I l h1 h0
  rw [e]; exact h2 σ' hI
theorem for_lst1 {α : Type} {f : D → Sl → Option Out} {gg : α → D} {l : List α} {σ : Sl} {g : Out → Option Out} {R : Option Out} (I : Nat → Sl → Prop) (h0 : I 0 σ) (h1 : ∀ i x σ, l[i]? = some x → I i σ → ∃ σ', f (gg x) σ = some (.nx σ') ∧ I (i + 1) σ') (h2 : ∀ σ', I l.length σ' → g (.nx σ') = R) :
    (forGo f (l.map gg) σ).bind g = R := by
  obtain ⟨σ', e, hI⟩ := forGo_list gg I l h1 h0
  rw [e]; exact h2 σ' hI
theorem l_longest_sem {b : List Iv} {k : Nat} (h : ∀ i ∈ b, szI 1000 i) (h0 : 0 < b.length) (hl : b.length ≤ 1000) (hk : 6 ≤ k) : fnSem TT NN k f_l_longest [bxD b] = some (.int (bestR b b.length : Int)) := by
  obtain ⟨k, rfl, hj⟩ := suc hk
  have r := P.i_rng (n := (b.length : Int)) (by omega) (by unfold lim; omega)
  rw [Int.toNat_natCast] at r
  rw [sem_of (fn := d_l_longest) rfl, d_l_longest, runFn_of (by rfl)]
  have e : bxD b = .tuple (b.map iD) := rfl
  simp [e, r]
  refine for_rng (fun i σ => ∃ o, σ = [some (.tuple (b.map iD)), some (.int (bestR b i : Int)), o]) ⟨_, rfl⟩ (fun i σ hi hI => ?_) fun σ hI => ?_
  · obtain ⟨o, rfl⟩ := hI
    obtain ⟨p, hp⟩ := some_at hi
    obtain ⟨q, hq⟩ := some_at (l := b) (n := bestR b i) (by have := bestR_lt b i; omega)
    have x1 := bx_at hp
    have x2 := bx_at hq
    have sp := h p (List.mem_of_getElem? hp)
    have sq := h q (List.mem_of_getElem? hq)
    have y1 := l_sub_sem (x := p.2) (y := p.1) (k := k) (by have := sp.1; have := sp.2; omega) (by omega)
    have y2 := l_sub_sem (x := q.2) (y := q.1) (k := k) (by have := sq.1; have := sq.2; omega) (by omega)
    rw [← wR_at hp] at y1
    rw [← wR_at hq] at y2
    have y3 := l_less_sem (x := wR b (bestR b i)) (y := wR b i) (k := k) (by have := wR_sz h i; have := wR_sz h (bestR b i); omega) (by omega)
    have u : bestR b (i + 1) = if wR b (bestR b i) < wR b i then i else bestR b i := rfl
    refine ⟨[some (.tuple (b.map iD)), some (.int (bestR b (i + 1) : Int)), some (.int (i : Int))], .inl ?_, ⟨_, rfl⟩⟩
    simp [x1, x2, iD]
    simp [y1, y2, y3, u]
    by_cases c : wR b (bestR b i) < wR b i <;> simp [c]
  · obtain ⟨o, rfl⟩ := hI
    simp
/-! corners -/
def endsR (i : Iv) : List Rat := if i.1 = i.2 then [i.1] else [i.1, i.2]
def stepR (ps : List (List Rat)) (i : Iv) : List (List Rat) := ps.flatMap fun p => (endsR i).map fun e => p ++ [e]
def cornR (b : List Iv) : List (List Rat) := b.foldl stepR [[]]
def pD (p : List Rat) : D := .tuple (p.map qD)
theorem c_eq_q (x y : Rat) : cmpop .eq (qD x) (qD y) = some (.bool (decide (x = y))) := by
  have s : ∀ x : Rat, SeqAt.shaped (qD x) = true := fun x => rfl
  show (if SeqAt.shaped (qD x) = true ∧ SeqAt.shaped (qD y) = true then some (PyData.bool (PyData.eqv (qD x) (qD y))) else none) = _
  rw [if_pos ⟨s x, s y⟩]
  have e : PyData.eqv (qD x) (qD y) = ((x.num == y.num) && (((x.den : Int) == y.den) && true)) := rfl
  rw [e]
  by_cases c : x = y
  · subst c; simp
  · have : ¬(x.num = y.num ∧ x.den = y.den) := fun h => c (Rat.ext h.1 h.2)
    simp [c]
    intro h1 h2
    exact c (Rat.ext h1 (by omega))
end Ev

set_option Elab.async false
set_option linter.all false
namespace Ev
open PySem
/-! Bq: corners; draws; the law's boxes. -/
theorem mapGo_map {α : Type} {f : D → Option D} {g h : α → D} : ∀ {l : List α}, (∀ a ∈ l, f (g a) = some (h a)) → mapGo f (l.map g) = some (l.map h)
  | [], _ => rfl
  | d :: ds, e => by
    show mapGo f (g d :: ds.map g) = _
    unfold mapGo
    rw [e d (by simp), mapGo_map fun a m => e a (by simp [m])]
    rfl
theorem catGo_map {α : Type} {f : D → Option (List D)} {g : α → D} {h : α → List D} : ∀ {l : List α}, (∀ a ∈ l, f (g a) = some (h a)) → catGo f (l.map g) = some (l.flatMap h)
  | [], _ => rfl
  | d :: ds, e => by
    show catGo f (g d :: ds.map g) = _
    unfold catGo
    rw [e d (by simp), catGo_map fun a m => e a (by simp [m])]
    rfl
theorem step_len (ps : List (List Rat)) (i : Iv) : (stepR ps i).length ≤ 2 * ps.length := by
  unfold stepR
  induction ps with
  | nil => simp
  | cons p ps ih =>
    have : (endsR i).length ≤ 2 := by unfold endsR; split <;> simp
    simp at ih ⊢
    omega
theorem step_one (p : List Rat) (ps : List (List Rat)) (i : Iv) : ∀ q ∈ stepR ps i, ∃ p ∈ ps, q.length = p.length + 1 := by
  intro q hq
  unfold stepR at hq
  obtain ⟨p, hp, hq⟩ := List.mem_flatMap.mp hq
  obtain ⟨e, he, rfl⟩ := List.mem_map.mp hq
  exact ⟨p, hp, by simp⟩
def cornT (b : List Iv) (j : Nat) : List (List Rat) := (b.take j).foldl stepR [[]]
theorem cornT_succ {b : List Iv} {j : Nat} {i : Iv} (h : b[j]? = some i) : cornT b (j + 1) = stepR (cornT b j) i := by
  unfold cornT
  rw [List.take_add_one, h]
  simp
theorem cornT_len {b : List Iv} : ∀ j, (cornT b j).length ≤ 2 ^ j
  | 0 => by unfold cornT; simp
  | j + 1 => by
    have ih := cornT_len (b := b) j
    rcases Nat.lt_or_ge j b.length with h | h
    · obtain ⟨i, hi⟩ := some_at h
      rw [cornT_succ hi]
      have := step_len (cornT b j) i
      rw [Nat.pow_succ]; omega
    · unfold cornT at *
      rw [List.take_of_length_le (by omega)] at *
      rw [Nat.pow_succ]; omega
theorem cornT_each {b : List Iv} : ∀ j, ∀ p ∈ cornT b j, p.length ≤ j
  | 0 => by unfold cornT; simp
  | j + 1 => by
    have ih := cornT_each (b := b) j
    rcases Nat.lt_or_ge j b.length with h | h
    · obtain ⟨i, hi⟩ := some_at h
      rw [cornT_succ hi]
      intro p hp
      obtain ⟨q, hq, e⟩ := step_one p _ i p hp
      have := ih q hq
      omega
    · unfold cornT at *
      rw [List.take_of_length_le (by omega)] at *
      intro p hp
      have := ih p hp
      omega
theorem cornT_all (b : List Iv) : cornT b b.length = cornR b := by unfold cornT cornR; rw [List.take_length]
theorem pD_add (p : List Rat) (e : Rat) (h : p.length ≤ 1000) : binop .add (pD p) (.tuple [qD e]) = some (pD (p ++ [e])) := by
  have := P.b_addt (xs := p.map qD) (ys := [qD e]) (by simp; unfold lim; omega)
  unfold pD
  rw [this]; simp
theorem corners_sem {b : List Iv} {k : Nat} (hl : b.length ≤ 10) (hk : 1 ≤ k) : fnSem TT NN k f_corners [bxD b] = some (.list ((cornR b).map pD)) := by
  obtain ⟨k, rfl, hj⟩ := suc hk
  rw [sem_of (fn := d_corners) rfl, d_corners, runFn_of (by rfl)]
  have e : bxD b = .tuple (b.map iD) := rfl
  simp [e]
  refine for_lst (fun i σ => ∃ o2 o3 o4 o5 o6, σ = [some (.tuple (b.map iD)), some (.list ((cornT b i).map pD)), o2, o3, o4, o5, o6]) ⟨_, _, _, _, _, rfl⟩ (fun j i σ hi hI => ?_) fun σ hI => ?_
  · obtain ⟨o2, o3, o4, o5, o6, rfl⟩ := hI
    have hj : j < b.length := by
      rcases Nat.lt_or_ge j b.length with h' | h'
      · exact h'
      · rw [List.getElem?_eq_none h'] at hi; cases hi
    refine ⟨[some (.tuple (b.map iD)), some (.list ((cornT b (j + 1)).map pD)), some (qD i.1), some (qD i.2), some (.list ((endsR i).map qD)), o5, o6], ?_, ⟨_, _, _, _, _, rfl⟩⟩
    have hlen : (stepR (cornT b j) i).length ≤ lim := by
      have := step_len (cornT b j) i
      have := cornT_len (b := b) j
      have : 2 ^ j ≤ 2 ^ 10 := Nat.pow_le_pow_right (by omega) (by omega)
      unfold lim; omega
    have ee : (if i.1 = i.2 then some (PyData.list [qD i.1]) else some (.list [qD i.1, qD i.2])) = some (.list ((endsR i).map qD)) := by
      unfold endsR
      by_cases c : i.1 = i.2 <;> simp [c]
    have cm : ∀ σ' : Sl, catGo (fun d => (bindT (.nm 5) d (swipe [some (.tuple (b.map iD)), some (.list ((cornT b j).map pD)), some (qD i.1), some (qD i.2), some (.list ((endsR i).map qD)), o5, o6] [5, 6])).bind fun σ' => (evEs (fnSem TT NN k) (.cons (.var 4) .nil) σ').bind fun es => (itemsOf .it es).bind fun jts =>
        mapGo (fun e => (bindT (.nm 6) e (swipe σ' [6])).bind fun σ'' => evE (fnSem TT NN k) (.bin .add (.var 5) (.tup (.cons (.var 6) .nil))) σ'') jts) ((cornT b j).map pD) = some ((cornT b j).flatMap fun p => (endsR i).map fun e => pD (p ++ [e])) := fun _ => catGo_map fun p hp => by
      have hp := cornT_each j p hp
      simp
      exact mapGo_map fun e he => by simp [pD_add p e (by omega)]
    have cm := cm []
    have fm : ((cornT b j).flatMap fun p => (endsR i).map fun e => pD (p ++ [e])) = (stepR (cornT b j) i).map pD := by
      unfold stepR
      rw [List.map_flatMap]
      congr 1
      funext p
      rw [List.map_map]; rfl
    rw [fm] at cm
    simp at cm
    simp [iD, c_eq_q, ee, cm, hlen, cornT_succ hi]
  · obtain ⟨o2, o3, o4, o5, o6, rfl⟩ := hI
    simp [cornT_all]
end Ev
namespace Ev
open PySem
/-! draws -/
theorem l_cell_sem {ns : List Int} {t k : Nat} (hk : 1 ≤ k) : ∃ c : Int, (c = 0 ∨ c ∈ ns) ∧ fnSem TT NN k f_l_cell [roD ns, .int (t : Int)] = some (.int c) := by
  obtain ⟨k, rfl, hj⟩ := suc hk
  rw [sem_of (fn := d_l_cell) rfl, d_l_cell, runFn_of (by rfl)]
  rcases Nat.lt_or_ge t ns.length with h | h
  · obtain ⟨c, hc⟩ := some_at h
    have e := P.ixD_nat (xs := ns.map PyData.int) (n := t) (x := .int c) (by rw [List.getElem?_map, hc]; rfl)
    refine ⟨c, .inr (List.mem_of_getElem? hc), ?_⟩
    simp [roD, h, e]
  · refine ⟨0, .inl rfl, ?_⟩
    have : ¬ t < ns.length := by omega
    simp [roD, this]
theorem bits_log {z : Int} (h : Builtin.Int.intBits z ≤ 1048576) : z.natAbs.log2 ≤ 1048576 := by
  unfold Builtin.Int.intBits at h
  split at h
  · rename_i e
    have : z = 0 := by simpa using e
    subst this; decide
  · omega
theorem mulOk_log {i j : Int} (hi : i.natAbs.log2 ≤ 2000000) (hj : j.natAbs.log2 ≤ 90) : mulOk i j = true := decide_eq_true (by omega)
theorem log_small {j : Int} {n : Nat} (h : j.natAbs < 2 ^ (n + 1)) : j.natAbs.log2 ≤ n := log2_of_lt h
theorem l_draws_sem {c : Int} {n k : Nat} (hc : c.natAbs.log2 ≤ 1048576) (hn : n ≤ 1000) (hk : 1 ≤ k) : ∃ ds : List Int, ds.length = n ∧ (∀ d ∈ ds, 0 ≤ d ∧ d < 4096) ∧ fnSem TT NN k f_l_draws [.int c, .int (n : Int)] = some (.list (ds.map .int)) := by
  obtain ⟨k, rfl, hj⟩ := suc hk
  have r := P.i_rng (n := (n : Int)) (by omega) (by unfold lim; omega)
  rw [Int.toNat_natCast] at r
  have pw : binop .pow (.int 10) (.int 18) = some (.int 1000000000000000000) := by rfl
  have dv : divOk 4096 = true := by decide
  have d7 : divOk 7 = true := by decide
  rw [sem_of (fn := d_l_draws) rfl, d_l_draws, runFn_of (by rfl)]
  simp [r]
  generalize hF : forGo _ (rangeD 0 n) _ = F
  have key : ∃ σ', F = some (.nx σ') ∧ ∃ ds : List Int, ∃ l o4 o5, ds.length = n ∧ (∀ d ∈ ds, 0 ≤ d ∧ d < 4096) ∧ σ' = [some (.int c), some (.int (n : Int)), some (.list (ds.map .int)), some (.int l), o4, o5] := by
    rw [← hF]
    refine forGo_inv (fun i σ => ∃ ds : List Int, ∃ l o4 o5, ds.length = i ∧ (∀ d ∈ ds, 0 ≤ d ∧ d < 4096) ∧ σ = [some (.int c), some (.int (n : Int)), some (.list (ds.map .int)), some (.int l), o4, o5]) (fun i σ hi hI => ?_) ⟨[], c, _, _, rfl, by simp, rfl⟩
    obtain ⟨ds, l, o4, o5, hl, hd, rfl⟩ := hI
    have ap : ∀ x : Int, appD (.list (ds.map .int)) (.int x) = some (.list ((ds ++ [x]).map .int)) := fun x => by
      unfold appD
      simp
      unfold lim; omega
    have hd2 : ∀ x : Int, 0 ≤ x → x < 4096 → ∀ d ∈ ds ++ [x], 0 ≤ d ∧ d < 4096 := fun x h0 h1 d hm => by
      rcases List.mem_append.mp hm with h | h
      · exact hd d h
      · rw [List.mem_singleton.mp h]; exact ⟨h0, h1⟩
    by_cases c1 : 1000000000000000000 ≤ c ∧ 0 < l
    · refine ⟨[some (.int c), some (.int (n : Int)), some (.list ((ds ++ [l % 4096]).map .int)), some (.int (l.fdiv 4096)), some (.int i), o5], .inl ?_, ds ++ [l % 4096], _, _, _, by simp [hl], hd2 _ (Int.emod_nonneg _ (by decide)) (Int.emod_lt_of_pos _ (by decide)), rfl⟩
      simp [pw, c1.1, c1.2, P.b_mod, P.b_fdiv dv]
      simp [ap, P.b_fdiv dv]
    · obtain ⟨m1, e1, p1, u1⟩ : ∃ m, (c * 48271 + ((i : Int) + 1) * 69621) % 2147483647 = m ∧ 0 ≤ m ∧ m < 2147483647 := ⟨_, rfl, Int.emod_nonneg _ (by decide), Int.emod_lt_of_pos _ (by decide)⟩
      obtain ⟨m2, e2, p2, u2⟩ : ∃ m, (m1 * m1 + m1 * 16807 + (i : Int) * 7919) % 2147483629 = m ∧ 0 ≤ m ∧ m < 2147483629 := ⟨_, rfl, Int.emod_nonneg _ (by decide), Int.emod_lt_of_pos _ (by decide)⟩
      obtain ⟨m3, e3, p3, u3⟩ : ∃ m, (m2 * m2 + c + 13 * (i : Int)) % 2147483587 = m ∧ 0 ≤ m ∧ m < 2147483587 := ⟨_, rfl, Int.emod_nonneg _ (by decide), Int.emod_lt_of_pos _ (by decide)⟩
      have li : ∀ x : Int, 0 ≤ x → x < 2147483647 → x.natAbs.log2 ≤ 32 := fun x h0 h1 => log_small (by omega)
      have q1 : mulOk c 48271 = true := mulOk_log (by omega) (by decide)
      have q2 : mulOk ((i : Int) + 1) 69621 = true := mulOk_log (by have := li ((i : Int) + 1) (by omega) (by omega); omega) (by decide)
      have q3 : mulOk m1 m1 = true := mulOk_log (by have := li m1 p1 u1; omega) (by have := li m1 p1 u1; omega)
      have q4 : mulOk m1 16807 = true := mulOk_log (by have := li m1 p1 u1; omega) (by decide)
      have q5 : mulOk (i : Int) 7919 = true := mulOk_log (by have := li (i : Int) (by omega) (by omega); omega) (by decide)
      have q6 : mulOk m2 m2 = true := mulOk_log (by have := li m2 p2 (by omega); omega) (by have := li m2 p2 (by omega); omega)
      have q7 : mulOk 13 (i : Int) = true := mulOk_log (by decide) (by have := li (i : Int) (by omega) (by omega); omega)
      refine ⟨[some (.int c), some (.int (n : Int)), some (.list ((ds ++ [m3.fdiv 7 % 4096]).map .int)), some (.int l), some (.int i), some (.int m3)], .inl ?_, ds ++ [m3.fdiv 7 % 4096], _, _, _, by simp [hl], hd2 _ (Int.emod_nonneg _ (by decide)) (Int.emod_lt_of_pos _ (by decide)), rfl⟩
      have hs : ∀ (A B : Option Out), (if 1000000000000000000 ≤ c then (some (decide (0 < l))).bind fun t => if t = true then A else B else B) = B := fun A B => by
        by_cases g : 1000000000000000000 ≤ c
        · have : ¬ 0 < l := fun z => c1 ⟨g, z⟩
          simp [g, this]
        · simp [g]
      rcases Classical.em (1000000000000000000 ≤ c) with g | g
      · have g2 : ¬ 0 < l := fun z => c1 ⟨g, z⟩
        simp [pw, g, g2, P.b_mul q1, P.b_mul q2, P.b_mod, e1, P.b_mul q3, P.b_mul q4, P.b_mul q5, e2, P.b_mul q6, P.b_mul q7, e3, P.b_fdiv d7]
        simp [ap, P.b_fdiv d7, P.b_mod]
      · simp [pw, g, P.b_mul q1, P.b_mul q2, P.b_mod, e1, P.b_mul q3, P.b_mul q4, P.b_mul q5, e2, P.b_mul q6, P.b_mul q7, e3, P.b_fdiv d7]
        simp [ap, P.b_fdiv d7, P.b_mod]
  obtain ⟨σ', rfl, ds, l, o4, o5, hl, hd, rfl⟩ := key
  exact ⟨ds, hl, hd, by simp⟩
end Ev

set_option Elab.async false
set_option linter.all false
namespace Ev
open PySem
/-! Br: the law's boxes; what is no box. -/
theorem l_small_sem {d : Int} {k : Nat} (h0 : 0 ≤ d) (hk : 3 ≤ k) : ∃ x : Rat, sz x ≤ 5 ∧ fnSem TT NN k f_l_small [.int d] = some (qD x) := by
  obtain ⟨k, rfl, hj⟩ := suc hk
  have dv : divOk 19 = true := by decide
  have e1 := Int.emod_nonneg d (b := 19) (by decide)
  have e2 := Int.emod_lt_of_pos d (b := 19) (by decide)
  have e3 := Int.emod_nonneg (d.fdiv 19) (b := 4) (by decide)
  have e4 := Int.emod_lt_of_pos (d.fdiv 19) (b := 4) (by decide)
  have n1 : (d % 19 - 9).natAbs < 2 ^ 5 := by omega
  have n2 : (1 + d.fdiv 19 % 4).natAbs < 2 ^ 5 := by omega
  have f := l_frac_sem (a := d % 19 - 9) (b := 1 + d.fdiv 19 % 4) (n := 5) (k := k) (by omega) n1 n2 (by omega) hj
  refine ⟨_, sz_divInt (a := d % 19 - 9) (b := 1 + d.fdiv 19 % 4) (by omega) (by decide) n1 n2, ?_⟩
  rw [sem_of (fn := d_l_small) rfl, d_l_small, runFn_of (by rfl)]
  simp [P.b_mod, P.b_fdiv dv, f]
def gI (i : Iv) : Prop := i.1 ≤ i.2 ∧ szI 20 i
theorem rat_min_le (x y : Rat) : (if y < x then y else x) ≤ (if x < y then y else x) := by
  by_cases h1 : y < x
  · by_cases h2 : x < y
    · simp [h1, h2, Rat.le_refl]
    · simp [h1, h2]; exact Rat.le_of_lt h1
  · by_cases h2 : x < y
    · simp [h1, h2]; exact Rat.le_of_lt h2
    · simp [h1, h2, Rat.le_refl]
theorem l_span_sem {d e : Int} {k : Nat} (h0 : 0 ≤ d) (h1 : 0 ≤ e) (hk : 4 ≤ k) : ∃ i : Iv, (i.1 ≤ i.2 ∧ szI 5 i) ∧ fnSem TT NN k f_l_span [.int d, .int e] = some (iD i) := by
  obtain ⟨k, rfl, hj⟩ := suc hk
  obtain ⟨x, hx, ex⟩ := l_small_sem (k := k) h0 hj
  obtain ⟨y0, hy, ey⟩ := l_small_sem (k := k) h1 hj
  have dv : divOk 76 = true := by decide
  obtain ⟨y, hy2, hc⟩ : ∃ y, sz y ≤ 5 ∧ y = if d.fdiv 76 % 5 = 1 then x else y0 := by
    by_cases c : d.fdiv 76 % 5 = 1
    · exact ⟨x, hx, by simp [c]⟩
    · exact ⟨y0, hy, by simp [c]⟩
  have m1 := l_least_sem (x := x) (y := y) (k := k) (by omega) (by omega)
  have m2 := l_most_sem (x := x) (y := y) (k := k) (by omega) (by omega)
  refine ⟨(if y < x then y else x, if x < y then y else x), ⟨rat_min_le x y, by simp only; split <;> assumption, by simp only; split <;> assumption⟩, ?_⟩
  rw [sem_of (fn := d_l_span) rfl, d_l_span, runFn_of (by rfl)]
  by_cases c : d.fdiv 76 % 5 = 1
  · rw [if_pos c] at hc
    subst hc
    simp [ex, ey, P.b_mod, P.b_fdiv dv, c, m1, m2, iD]
  · rw [if_neg c] at hc
    subst hc
    simp [ex, ey, P.b_mod, P.b_fdiv dv, c, m1, m2, iD]
theorem l_box_sem {ds : List Int} {n k : Nat} (hl : ds.length = 14) (hd : ∀ d ∈ ds, 0 ≤ d ∧ d < 4096) (hn : n ≤ 1000) (hk : 5 ≤ k) : ∃ b : List Iv, (b.length = n ∧ ∀ i ∈ b, i.1 ≤ i.2 ∧ szI 5 i) ∧ fnSem TT NN k f_l_box [.int (n : Int), .list (ds.map .int), .int 1] = some (bxD b) := by
  obtain ⟨k, rfl, hj⟩ := suc hk
  have r := P.i_rng (n := (n : Int)) (by omega) (by unfold lim; omega)
  rw [Int.toNat_natCast] at r
  have at_ : ∀ j : Int, ∃ d : Int, 0 ≤ d ∧ ixD (ds.map .int) (j % 14) = some (.int d) := fun j => by
    have e1 := Int.emod_nonneg j (b := 14) (by decide)
    have e2 := Int.emod_lt_of_pos j (b := 14) (by decide)
    obtain ⟨m, hm⟩ : ∃ m : Nat, j % 14 = m := ⟨(j % 14).toNat, by omega⟩
    obtain ⟨d, h'⟩ := some_at (l := ds) (n := m) (by omega)
    exact ⟨d, (hd d (List.mem_of_getElem? h')).1, by rw [hm]; exact P.ixD_nat (by rw [List.getElem?_map, h']; rfl)⟩
  rw [sem_of (fn := d_l_box) rfl, d_l_box, runFn_of (by rfl)]
  simp [r]
  generalize hF : compGo _ (rangeD 0 n) = F
  have key : ∃ b : List Iv, F = some (b.map iD) ∧ b.length = (rangeD 0 n).length ∧ ∀ i ∈ b, i.1 ≤ i.2 ∧ szI 5 i := by
    rw [← hF]
    refine compGo_ex (g := iD) (Q := fun i => i.1 ≤ i.2 ∧ szI 5 i) fun d hd' => ?_
    obtain ⟨j, hj', rfl⟩ := mem_rangeD hd'
    have q1 : mulOk 2 (j : Int) = true := mulOk_log (by decide) (by have := log_small (j := (j : Int)) (n := 32) (by omega); omega)
    obtain ⟨d1, p1, a1⟩ := at_ (1 + 2 * (j : Int))
    obtain ⟨d2, p2, a2⟩ := at_ (1 + 2 * (j : Int) + 1)
    obtain ⟨i, hi, ei⟩ := l_span_sem (k := k) p1 p2 (by omega)
    refine ⟨i, hi, ?_⟩
    simp [P.b_mul q1, P.b_mod, hl, a1, a2]
    rw [ei]; rfl
  obtain ⟨b, rfl, hb, hi⟩ := key
  rw [rangeD_len] at hb
  exact ⟨b, ⟨hb, fun x y m => hi (x, y) m⟩, by simp [bxD]⟩
/-! no intervals -/
def noI (k : Nat) (d : D) : Prop := fnSem TT NN k f_is_interval [d] = some (.bool false)
theorem noI_none {k : Nat} (hk : 1 ≤ k) : noI k .none := by
  obtain ⟨k, rfl, hj⟩ := suc hk
  unfold noI
  rw [sem_of (fn := d_is_interval) rfl, d_is_interval, runFn_of (by rfl)]
  simp [isiD, isRo]
theorem noI_list {k : Nat} {xs : List D} (hk : 1 ≤ k) : noI k (.list xs) := by
  obtain ⟨k, rfl, hj⟩ := suc hk
  unfold noI
  rw [sem_of (fn := d_is_interval) rfl, d_is_interval, runFn_of (by rfl)]
  simp [isiD, isRo]
theorem noI_one {k : Nat} {x : D} (hk : 1 ≤ k) : noI k (.tuple [x]) := by
  obtain ⟨k, rfl, hj⟩ := suc hk
  unfold noI
  rw [sem_of (fn := d_is_interval) rfl, d_is_interval, runFn_of (by rfl)]
  simp [isiD, isRo]
theorem noN_int {k : Nat} {i : Int} (hk : 1 ≤ k) : fnSem TT NN k f_is_number [.int i] = some (.bool false) := by
  obtain ⟨k, rfl, hj⟩ := suc hk
  rw [sem_of (fn := d_is_number) rfl, d_is_number, runFn_of (by rfl)]
  simp [isiD, isRo]
theorem noI_num {k : Nat} {x : Rat} (hk : 2 ≤ k) : noI k (qD x) := by
  obtain ⟨k, rfl, hj⟩ := suc hk
  have m := noN_int (i := x.num) (k := k) hj
  unfold noI
  rw [sem_of (fn := d_is_interval) rfl, d_is_interval, runFn_of (by rfl)]
  simp [qD, isiD, isRo, m]
theorem noI_twice {k : Nat} {x : Rat} {d : D} (hk : 3 ≤ k) : noI k (.tuple [.tuple [.int (2 * x.num), .int (2 * x.den)], d]) := by
  obtain ⟨k, rfl, hj⟩ := suc hk
  have m1 : fnSem TT NN k f_is_number [.tuple [.int (2 * x.num), .int (2 * x.den)]] = some (.bool false) := by
    obtain ⟨k, rfl, hk2⟩ := suc hj
    have m1 := is_integer_sem (d := .int (2 * x.num)) (k := k) rfl hk2
    have m2 := is_integer_sem (d := .int (2 * x.den)) (k := k) rfl hk2
    have g : Int.gcd (2 * x.num) (2 * x.den) = 2 := by
      rw [Int.gcd_mul_left]
      have : Int.gcd x.num x.den = 1 := x.reduced
      rw [this]; rfl
    have dp : 0 < x.den := by have := den_pos x; omega
    rw [sem_of (fn := d_is_number) rfl, d_is_number, runFn_of (by rfl)]
    simp [m1, m2, isIntD, isRo, isiD, g, dp]
  unfold noI
  rw [sem_of (fn := d_is_interval) rfl, d_is_interval, runFn_of (by rfl)]
  simp [isiD, isRo, m1]
/-! boxes told -/
theorem is_box_good {b : List Iv} {k : Nat} (h : ∀ i ∈ b, i.1 ≤ i.2 ∧ szI 1000 i) (hk : 4 ≤ k) (n : Int) : fnSem TT NN k f_is_box [.int n, bxD b] = some (.bool (decide ((b.length : Int) = n))) := by
  obtain ⟨k, rfl, hj⟩ := suc hk
  have := is_box_gen (xs := b.map iD) (g := fun _ => true) (n := n) (k := k) fun x hx => by
    obtain ⟨i, hi, rfl⟩ := List.mem_map.mp hx
    rw [is_interval_sem (h i hi).2 hj]
    simp [(h i hi).1]
  have e : (b.map iD).all (fun _ => true) = true := by simp
  rw [e, Bool.and_true, List.length_map] at this
  exact this
theorem is_box_bad {xs : List D} {k : Nat} (h : ∀ x ∈ xs, ∃ g : Bool, fnSem TT NN k f_is_interval [x] = some (.bool g)) (hx : ∃ x ∈ xs, noI k x) (n : Int) : fnSem TT NN (k + 1) f_is_box [.int n, .tuple xs] = some (.bool false) := by
  have := is_box_gen (xs := xs) (g := fun x => (tst (fnSem TT NN k f_is_interval [x])).getD false) (n := n) (k := k) fun x hx => by
    obtain ⟨g, e⟩ := h x hx
    rw [e]; rfl
  obtain ⟨x, hm, hn⟩ := hx
  have e : xs.all (fun x => (tst (fnSem TT NN k f_is_interval [x])).getD false) = false := by
    rw [List.all_eq_false]
    exact ⟨x, hm, by rw [show fnSem TT NN k f_is_interval [x] = _ from hn]; simp⟩
  rw [this, e, Bool.and_false]
theorem is_box_list {xs : List D} {n : Int} {k : Nat} (hk : 1 ≤ k) : fnSem TT NN k f_is_box [.int n, .list xs] = some (.bool false) := by
  obtain ⟨k, rfl, hj⟩ := suc hk
  rw [sem_of (fn := d_is_box) rfl, d_is_box, runFn_of (by rfl)]
  simp [isiD, isRo]
end Ev

set_option Elab.async false
set_option linter.all false
namespace Ev
open PySem
/-! La: the law of boxes, in plain Lean. -/
abbrev dep_k43 : Nat := 30
abbrev NN_k43 : Nat := 1000000
def takeS : Nat → Ss → Ss
  | 0, _ => .nil
  | _ + 1, .nil => .nil
  | n + 1, .cons s ss => .cons s (takeS n ss)
def dropS : Nat → Ss → Ss
  | 0, ss => ss
  | _ + 1, .nil => .nil
  | n + 1, .cons _ ss => dropS n ss
theorem split_ss (C : Nat → List D → Option D) (N : Nat) : ∀ (n : Nat) (ss : Ss) (σ : Sl), evSs C N ss σ = (evSs C N (takeS n ss) σ).bind (P.thenS C N (dropS n ss))
  | 0, ss, σ => rfl
  | n + 1, .nil, σ => rfl
  | n + 1, .cons s ss, σ => by
    show evSs C N (.cons s ss) σ = (evSs C N (.cons s (takeS n ss)) σ).bind (P.thenS C N (dropS n ss))
    rw [P.ss_cons, P.ss_cons]
    cases h : evS C N s σ with
    | none => rfl
    | some o =>
      cases o with
      | nx σ' => exact split_ss C N n ss σ'
      | ret d => rfl
      | bk σ' => rfl
      | ct σ' => rfl
theorem chain_ss {C : Nat → List D → Option D} {N : Nat} {ss : Ss} {σ σ1 : Sl} {r : Option Out} (n : Nat) (h : evSs C N (takeS n ss) σ = some (.nx σ1)) (h2 : evSs C N (dropS n ss) σ1 = r) : evSs C N ss σ = r := by
  rw [split_ss C N n, h]; exact h2
def hdS : Ss → S
  | .cons s _ => s
  | .nil => .pass
def forB : S → Ss
  | .for_ _ _ _ b => b
  | _ => .nil
def valsL : List D := [.none, .bool true, .bool false, .int 0, .int 1, .str "", .str "1", .tuple [], .tuple [.int 1], .tuple [.int 0, .int 0], .tuple [.int 1, .int 0], .tuple [.int 2, .int 4], .tuple [.int (-3), .int 6], .tuple [.int 1, .int (-1)], .tuple [.bool true, .int 1], .tuple [.int 1, .bool true],
  .tuple [.str "1", .str "2"], .tuple [.int 1, .int 2, .int 3], .list [.int 1, .int 2], .tuple [.tuple [.int 0, .int 1], .tuple [.int 1, .int 1]], .tuple [.tuple [.int 1, .int 1], .tuple [.int 0, .int 1]], .list [], .tuple [.tuple [.int 0, .int 1]], .dict []]
theorem l_values_sem {k : Nat} (hk : 1 ≤ k) : fnSem TT NN k f_l_values [] = some (.list valsL) := by
  obtain ⟨k, rfl, hj⟩ := suc hk
  rfl
def isFls : Option D → Bool
  | some (.bool false) => true
  | _ => false
theorem isFls_eq : ∀ {o : Option D}, isFls o = true → o = some (.bool false)
  | some (.bool false), _ => rfl
theorem vals_no : (valsL.all fun v => [1, 2, 3, 4].all fun n => isFls (fnSem TT NN 30 f_is_box [.int n, v])) = true := by decide +kernel
theorem value_no {v : D} {n : Int} (hv : v ∈ valsL) (h1 : 1 ≤ n) (h4 : n ≤ 4) : fnSem TT NN 30 f_is_box [.int n, v] = some (.bool false) := by
  have a := List.all_eq_true.mp vals_no v hv
  have b := List.all_eq_true.mp a n (by
    have : n = 1 ∨ n = 2 ∨ n = 3 ∨ n = 4 := by omega
    rcases this with rfl | rfl | rfl | rfl <;> simp)
  exact isFls_eq b
/-! same of lists of things -/
theorem depthAll_le {n : Nat} : ∀ {xs : List D}, (∀ x ∈ xs, x.depth ≤ n) → PyData.depthAll xs ≤ n
  | [], _ => by unfold PyData.depthAll; omega
  | x :: xs, h => by
    unfold PyData.depthAll
    have := h x (by simp)
    have := depthAll_le (xs := xs) fun y m => h y (by simp [m])
    omega
def okD (n : Nat) (d : D) : Prop := okS d = true ∧ d.depth ≤ n
theorem okD_tuple {n : Nat} {xs : List D} (h : ∀ x ∈ xs, okD n x) (hl : xs.length ≤ lim) : okD (n + 1) (.tuple xs) := by
  refine ⟨?_, ?_⟩
  · unfold okS
    rw [decide_eq_true hl, okSs_iff.mpr fun x m => (h x m).1]; rfl
  · show PyData.depthAll xs + 1 ≤ n + 1
    have := depthAll_le fun x m => (h x m).2
    omega
theorem okD_list {n : Nat} {xs : List D} (h : ∀ x ∈ xs, okD n x) (hl : xs.length ≤ lim) : okD (n + 1) (.list xs) := by
  refine ⟨?_, ?_⟩
  · unfold okS
    rw [decide_eq_true hl, okSs_iff.mpr fun x m => (h x m).1]; rfl
  · show PyData.depthAll xs + 1 ≤ n + 1
    have := depthAll_le fun x m => (h x m).2
    omega
theorem okD_q (x : Rat) : okD 1 (qD x) := ⟨rfl, Nat.le_refl _⟩
theorem okD_i (i : Iv) : okD 2 (iD i) := okD_tuple (by simp [okD_q]) (by simp; unfold lim; omega)
theorem okD_qs {α : Type} {l : List α} {g : α → Rat} (h : l.length ≤ 1000) : okD 2 (.tuple (l.map fun a => qD (g a))) := okD_tuple (fun x m => by
  obtain ⟨a, _, rfl⟩ := List.mem_map.mp m
  exact okD_q _) (by simp; unfold lim; omega)
theorem okD_put {b : List Iv} {n : Nat} {i : Iv} (h : b.length ≤ 1000) : okD 3 (putD (b.map iD) n (iD i)) := okD_tuple (fun x m => by
  rcases List.mem_append.mp m with m | m
  · obtain ⟨a, _, rfl⟩ := List.mem_map.mp (List.mem_of_mem_take m)
    exact okD_i _
  · rcases List.mem_append.mp m with m | m
    · rw [List.mem_singleton.mp m]; exact okD_i _
    · obtain ⟨a, _, rfl⟩ := List.mem_map.mp (List.mem_of_mem_drop m)
      exact okD_i _) (by simp; unfold lim; omega)
theorem same_ok {d : D} (h : okD 20 d) : fnSem TT NN 30 f_l_same [d, d] = some (.bool true) := l_same_sem h.1 (by have := h.2; omega)
theorem okD_mono {m n : Nat} {d : D} (h : okD m d) (hn : m ≤ n) : okD n d := ⟨h.1, Nat.le_trans h.2 hn⟩
/-! the law's turns -/
def B43 : Ss := forB (hdS d_law_k43.body)
abbrev C43 : Nat → List D → Option D := fnSem TT NN 30
def gB (b : List Iv) : Prop := ∀ i ∈ b, i.1 ≤ i.2 ∧ szI 20 i
theorem st1 {ns : List Int} (hb : ∀ z ∈ ns, Builtin.Int.intBits z ≤ 1048576) (t : Nat) (o2 o3 o4 o5 o6 o7 o8 o9 o10 o11 o12 o13 o14 o15 o16 : Option D) :
    ∃ (ds : List Int) (n : Nat) (b : List Iv), ds.length = 14 ∧ (∀ d ∈ ds, 0 ≤ d ∧ d < 4096) ∧ 1 ≤ n ∧ n ≤ 4 ∧ b.length = n ∧ (∀ i ∈ b, i.1 ≤ i.2 ∧ szI 5 i) ∧
      evSs C43 NN (takeS 3 B43) [some (roD ns), some (.int (t : Int)), o2, o3, o4, o5, o6, o7, o8, o9, o10, o11, o12, o13, o14, o15, o16] = some (.nx [some (roD ns), some (.int (t : Int)), some (.list (ds.map .int)), some (.int (n : Int)), some (bxD b), o5, o6, o7, o8, o9, o10, o11, o12, o13, o14, o15, o16]) := by
  obtain ⟨c, hc, e1⟩ := l_cell_sem (ns := ns) (t := t) (k := 30) (by omega)
  have hc2 : c.natAbs.log2 ≤ 1048576 := by
    rcases hc with rfl | hc
    · decide
    · exact bits_log (hb c hc)
  obtain ⟨ds, hl, hd, e2⟩ := l_draws_sem (c := c) (n := 14) (k := 30) hc2 (by omega) (by omega)
  obtain ⟨d0, h0⟩ := some_at (l := ds) (n := 0) (by omega)
  have a0 : ixD (ds.map .int) 0 = some (.int d0) := P.ixD_nat (n := 0) (by rw [List.getElem?_map, h0]; rfl)
  have p0 := Int.emod_nonneg d0 (b := 4) (by decide)
  have u0 := Int.emod_lt_of_pos d0 (b := 4) (by decide)
  obtain ⟨n, hn⟩ : ∃ n : Nat, 1 + d0 % 4 = n := ⟨(1 + d0 % 4).toNat, by omega⟩
  obtain ⟨b, ⟨hbl, hbi⟩, e3⟩ := l_box_sem (n := n) (k := 30) hl hd (by omega) (by omega)
  refine ⟨ds, n, b, hl, hd, by omega, by omega, hbl, hbi, ?_⟩
  have e2' : fnSem TT NN 30 f_l_draws [.int c, .int 14] = some (.list (ds.map .int)) := e2
  simp [B43, d_law_k43, hdS, forB, takeS, e1, e2', a0, P.b_mod, hn, e3]

theorem cut_last (xs : List D) : cut xs none (some (-1)) = xs.dropLast := by
  unfold cut HT.sIx
  simp
  rw [List.dropLast_eq_take]
  congr 1
  omega
theorem at_ds {ds : List Int} (hl : ds.length = 14) (hd : ∀ d ∈ ds, 0 ≤ d ∧ d < 4096) (j : Nat) (h : j < 14) : ∃ d, (0 ≤ d ∧ d < 4096) ∧ ixD (ds.map .int) (j : Int) = some (.int d) := by
  obtain ⟨d, h'⟩ := some_at (l := ds) (n := j) (by omega)
  exact ⟨d, hd d (List.mem_of_getElem? h'), P.ixD_nat (by rw [List.getElem?_map, h']; rfl)⟩
theorem three_q : qD 3 = .tuple [.int 3, .int 1] := rfl
theorem one_q : qD 1 = .tuple [.int 1, .int 1] := rfl
theorem st2 {ns : List Int} {ds : List Int} {n t : Nat} {b : List Iv} (hl : ds.length = 14) (hd : ∀ d ∈ ds, 0 ≤ d ∧ d < 4096) (n1 : 1 ≤ n) (n4 : n ≤ 4) (hb : b.length = n) (hi : ∀ i ∈ b, i.1 ≤ i.2 ∧ szI 5 i) (o5 o6 o7 o8 o9 o10 o11 o12 o13 o14 o15 o16 : Option D) :
    ∃ b' : List Iv, b'.length = n ∧ gB b' ∧ 
      evSs C43 NN (takeS 1 (dropS 3 B43)) [some (roD ns), some (.int (t : Int)), some (.list (ds.map .int)), some (.int (n : Int)), some (bxD b), o5, o6, o7, o8, o9, o10, o11, o12, o13, o14, o15, o16] = some (.nx [some (roD ns), some (.int (t : Int)), some (.list (ds.map .int)), some (.int (n : Int)), some (bxD b'), o5, o6, o7, o8, o9, o10, o11, o12, o13, o14, o15, o16]) := by
  obtain ⟨d10, p10, a10⟩ := at_ds hl hd 10 (by omega)
  have a10' : ixD (ds.map .int) 10 = some (.int d10) := a10
  by_cases c : d10 % 3 = 1 ∧ 1 < n
  · obtain ⟨i, hi0⟩ := some_at (l := b) (n := 0) (by omega)
    have x0 : ixD (b.map iD) 0 = some (iD i) := bx_at (n := 0) hi0
    have si := hi i (List.mem_of_getElem? hi0)
    have s3 : sz 3 ≤ 2 := by decide +kernel
    have z1 := sz_add i.1 3
    have z2 := sz_add i.2 3
    have g1 := si.2.1
    have g2 := si.2.2
    have y1 := l_add_sem (x := i.1) (y := 3) (k := 30) (by omega) (by omega)
    have y2 := l_add_sem (x := i.2) (y := 3) (k := 30) (by omega) (by omega)
    rw [three_q] at y1 y2
    refine ⟨b.dropLast ++ [(i.1 + 3, i.2 + 3)], by simp; omega, fun j hj => ?_, ?_⟩
    · rcases List.mem_append.mp hj with hj | hj
      · have := hi j (List.mem_of_mem_take (by rw [List.dropLast_eq_take] at hj; exact hj))
        exact ⟨this.1, by have := this.2.1; omega, by have := this.2.2; omega⟩
      · rw [List.mem_singleton.mp hj]
        exact ⟨Rat.add_le_add_right.mpr si.1, by show sz (i.1 + 3) ≤ 20; omega, by show sz (i.2 + 3) ≤ 20; omega⟩
    · have c1 := cut_last (b.map iD)
      have ad : binop .add (.tuple (b.map iD).dropLast) (.tuple [.tuple [qD (i.1 + 3), qD (i.2 + 3)]]) = some (.tuple ((b.map iD).dropLast ++ [.tuple [qD (i.1 + 3), qD (i.2 + 3)]])) := P.b_addt (by simp; unfold lim; omega)
      have ed : (b.map iD).dropLast ++ [.tuple [qD (i.1 + 3), qD (i.2 + 3)]] = (b.dropLast ++ [(i.1 + 3, i.2 + 3)]).map iD := by
        rw [List.map_append, List.map_dropLast]; rfl
      rw [ed] at ad
      have n1' : 1 < (n : Int) := by omega
      simp [B43, d_law_k43, hdS, forB, takeS, dropS, a10', P.b_mod, c.1, c.2, bxD, cutD, c1, x0]
      simp [iD, compGo, y1, y2]
      simp [iD] at ad
      simp [ad, n1']
  · refine ⟨b, hb, fun j hj => ⟨(hi j hj).1, by have := (hi j hj).2.1; omega, by have := (hi j hj).2.2; omega⟩, ?_⟩
    by_cases c1 : d10 % 3 = 1
    · have c2 : ¬ 1 < (n : Int) := fun z => c ⟨c1, by omega⟩
      simp [B43, d_law_k43, hdS, forB, takeS, dropS, a10', P.b_mod, c1, c2]
    · have c1' : (d10 % 3 == 1) = false := by simp [c1]
      simp [B43, d_law_k43, hdS, forB, takeS, dropS, a10', P.b_mod, c1']
theorem st3 {ns : List Int} {ds : List Int} {n t : Nat} {b : List Iv} (hl : ds.length = 14) (hd : ∀ d ∈ ds, 0 ≤ d ∧ d < 4096) (n1 : 1 ≤ n) (n4 : n ≤ 4) (hb : b.length = n) (hi : gB b) (o5 o6 o7 o8 o9 o10 o11 o12 o13 o14 o15 o16 : Option D) :
    ∃ q : Nat, q < n ∧ 
      evSs C43 NN (takeS 6 (dropS 4 B43)) [some (roD ns), some (.int (t : Int)), some (.list (ds.map .int)), some (.int (n : Int)), some (bxD b), o5, o6, o7, o8, o9, o10, o11, o12, o13, o14, o15, o16] = some (.nx [some (roD ns), some (.int (t : Int)), some (.list (ds.map .int)), some (.int (n : Int)), some (bxD b), some (.int (q : Int)), some (.list [.tuple []]), o7, o8, o9, o10, o11, o12, o13, o14, o15, o16]) := by
  obtain ⟨d11, p11, a11⟩ := at_ds hl hd 11 (by omega)
  have a11' : ixD (ds.map .int) 11 = some (.int d11) := a11
  have r1 := Int.emod_nonneg d11 (b := (n : Int)) (by omega)
  have r2 := Int.emod_lt_of_pos d11 (b := (n : Int)) (by omega)
  obtain ⟨q, hq⟩ : ∃ q : Nat, d11 % (n : Int) = q := ⟨(d11 % (n : Int)).toNat, by omega⟩
  have hs : ∀ i ∈ b, szI 1000 i := fun i m => ⟨by have := (hi i m).2.1; omega, by have := (hi i m).2.2; omega⟩
  have hg : ∀ i ∈ b, i.1 ≤ i.2 ∧ szI 1000 i := fun i m => ⟨(hi i m).1, hs i m⟩
  have y1 := is_box_good (k := 30) hg (by omega) (n : Int)
  have y2 := is_box_good (k := 30) hg (by omega) ((n : Int) % 4 + 1)
  have e1 : decide ((b.length : Int) = (n : Int)) = true := decide_eq_true (by omega)
  have e2 : decide ((b.length : Int) = (n : Int) % 4 + 1) = false := decide_eq_false (by omega)
  rw [e1] at y1
  rw [e2] at y2
  have y3 := box_middle_sem (k := 30) hs (by omega)
  have y4 := l_mid_sem (k := 30) hs (by omega)
  have y5 := same_ok (okD_mono (okD_qs (l := b) (g := fun i => (i.1 + i.2) / 2) (by omega)) (by omega))
  have y6 := box_widths_sem (k := 30) hs (by omega)
  have y7 := same_ok (okD_mono (okD_qs (l := b) (g := fun i => i.2 - i.1) (by omega)) (by omega))
  have y8 := longest_sem (k := 30) hs (by omega) (by omega) (by omega)
  have y9 := l_longest_sem (k := 30) hs (by omega) (by omega) (by omega)
  have y10 := l_is_number_sem (i := bestR b b.length) (j := bestR b b.length) (k := 30) (by omega)
  obtain ⟨i, hiq⟩ := some_at (l := b) (n := q) (by omega)
  have y11 := halves_sem (k := 30) hs (by omega) hiq (by omega)
  have y12 := l_halves_sem (k := 30) hs (by omega) hiq (by omega)
  have y13 := same_ok (okD_mono (m := 4) (okD_tuple (xs := [putD (b.map iD) q (iD (i.1, midR i)), putD (b.map iD) q (iD (midR i, i.2))]) (by
    intro x m
    simp at m
    rcases m with rfl | rfl
    · exact okD_put (by omega)
    · exact okD_put (by omega)) (by simp; unfold lim; omega)) (by omega))
  have y14 : compGo (fun d => (bindT (.tp (.cons (.nm 10) (.cons (.nm 11) .nil))) d (swipe [some (roD ns), some (.int (t : Int)), some (.list (ds.map .int)), some (.int (n : Int)), some (bxD b), o5, o6, o7, o8, o9, o10, o11, o12, o13, o14, o15, o16] [10, 11])).bind fun σ' => (oc (isNop .nop) (evE C43 .nop σ')).bind fun t => if t then (evE C43 (.call f_l_sub false (.cons (.var 11) (.cons (.var 10) .nil))) σ').bind fun x => some (some x) else some none) (b.map iD) = some (b.map fun i => qD (i.2 - i.1)) := compGo_map fun i m => by
    have hm := hs i m
    have z := l_sub_sem (x := i.2) (y := i.1) (k := 30) (by have := hm.1; have := hm.2; omega) (by omega)
    simp [iD, z]
  simp at y14
  refine ⟨q, by omega, ?_⟩
  have it_b : itemsOf .it [bxD b] = some (b.map iD) := rfl
  have md : binop .mod (.int d11) (.int (n : Int)) = some (.int (q : Int)) := by rw [P.b_mod (by omega), hq]
  have md4 : binop .mod (.int (n : Int)) (.int 4) = some (.int ((n : Int) % 4)) := P.b_mod (by decide)
  simp [B43, d_law_k43, hdS, forB, takeS, dropS, md4, y1, y2, y3, y4, y5, y6, y8, y9, y10, it_b]
  simp [y14, y7, y8, y9, y10, a11', md, y11, y12, y13]
/-! corners beside the law's own -/
theorem flat_take {α β : Type} (f : α → List β) (l : List α) (j : Nat) (x : α) (h : l[j]? = some x) : (l.take (j + 1)).flatMap f = (l.take j).flatMap f ++ f x := by
  rw [List.take_add_one, h]; simp
theorem ends_len (i : Iv) : (endsR i).length ≤ 2 := by unfold endsR; split <;> simp
def B4 : Ss := forB (hdS (dropS 10 B43))
theorem inner {s0 s1 s2 s3 s4 s5 : Option D} (ps : List (List Rat)) (E : List Rat) (h1 : ps.length ≤ 100) (h2 : ∀ p ∈ ps, p.length ≤ 100) (h3 : E.length ≤ 2) (o7 o8 o9 o10 o11 o13 o14 o15 o16 : Option D) :
    ∃ p14, evSs C43 NN (dropS 2 B4) [s0, s1, s2, s3, s4, s5, some (.list (ps.map pD)), o7, o8, o9, o10, o11, some (.list (E.map qD)), o13, o14, o15, o16] = some (.nx [s0, s1, s2, s3, s4, s5, some (.list ((ps.flatMap fun p => E.map fun e => p ++ [e]).map pD)), o7, o8, o9, o10, o11, some (.list (E.map qD)), some (.list ((ps.flatMap fun p => E.map fun e => p ++ [e]).map pD)), p14, o15, o16]) := by
  simp [B4, B43, d_law_k43, hdS, forB, takeS, dropS]
  generalize hF : forGo _ (ps.map pD) _ = F
  have key : ∃ σ', F = some (.nx σ') ∧ ∃ p14, σ' = [s0, s1, s2, s3, s4, s5, some (.list (ps.map pD)), o7, o8, o9, o10, o11, some (.list (E.map qD)), some (.list (((ps.take ps.length).flatMap fun p => E.map fun e => p ++ [e]).map pD)), p14, o15, o16] := by
    rw [← hF]
    refine forGo_list pD (fun i σ => ∃ p14, σ = [s0, s1, s2, s3, s4, s5, some (.list (ps.map pD)), o7, o8, o9, o10, o11, some (.list (E.map qD)), some (.list (((ps.take i).flatMap fun p => E.map fun e => p ++ [e]).map pD)), p14, o15, o16]) ps (fun j p σ hij hI => ?_) ⟨_, rfl⟩
    obtain ⟨p14, rfl⟩ := hI
    have hp := h2 p (List.mem_of_getElem? hij)
    have cm : compGo (fun d => (binop .add (pD p) (.tuple [d])).bind fun x => some (some x)) (E.map qD) = some (E.map fun e => pD (p ++ [e])) := compGo_map fun e m => by
      simp [pD_add p e (by omega)]
    have len : ((ps.take j).flatMap fun p => E.map fun e => p ++ [e]).length ≤ 200 := by
      have : ∀ l : List (List Rat), (l.flatMap fun p => E.map fun e => p ++ [e]).length ≤ 2 * l.length := fun l => by
        induction l with
        | nil => simp
        | cons p l ih => simp at ih ⊢; omega
      have := this (ps.take j)
      have : (ps.take j).length ≤ 100 := by simp; omega
      omega
    have ad : binop .add (.list (((ps.take j).flatMap fun p => E.map fun e => p ++ [e]).map pD)) (.list (E.map fun e => pD (p ++ [e]))) = some (.list (((ps.take (j + 1)).flatMap fun p => E.map fun e => p ++ [e]).map pD)) := by
      rw [P.b_addl (by rw [List.length_map, List.length_map]; unfold lim; omega), flat_take _ _ _ _ hij, List.map_append, List.map_map]
      rfl
    refine ⟨_, ?_, ⟨some (pD p), rfl⟩⟩
    simp [cm, ad]
  obtain ⟨σ', rfl, p14, rfl⟩ := key
  rw [List.take_length]
  exact ⟨p14, by simp⟩
theorem st4 {s0 s1 s2 s3 o5 : Option D} {n : Nat} {b : List Iv} (n4 : n ≤ 4) (hb : b.length = n) (o7 o8 o9 o10 o11 o12 o13 o14 o15 o16 : Option D) :
    ∃ p10 p11 p12 p13 p14 p15, evSs C43 NN (takeS 1 (dropS 10 B43)) [s0, s1, s2, s3, some (bxD b), o5, some (.list [.tuple []]), o7, o8, o9, o10, o11, o12, o13, o14, o15, o16] = some (.nx [s0, s1, s2, s3, some (bxD b), o5, some (.list ((cornR b).map pD)), o7, o8, o9, p10, p11, p12, p13, p14, p15, o16]) := by
  have key : ∃ σ', forGo (fun d σ => (bindT (.tp (.cons (.nm 10) (.cons (.nm 11) .nil))) d σ).bind fun σ' => evSs C43 NN B4 σ') (b.map iD) [s0, s1, s2, s3, some (bxD b), o5, some (.list [.tuple []]), o7, o8, o9, o10, o11, o12, o13, o14, o15, o16] = some (.nx σ') ∧ ∃ p10 p11 p12 p13 p14 p15, σ' = [s0, s1, s2, s3, some (bxD b), o5, some (.list ((cornT b b.length).map pD)), o7, o8, o9, p10, p11, p12, p13, p14, p15, o16] := by
    refine forGo_list iD (fun i σ => ∃ p10 p11 p12 p13 p14 p15, σ = [s0, s1, s2, s3, some (bxD b), o5, some (.list ((cornT b i).map pD)), o7, o8, o9, p10, p11, p12, p13, p14, p15, o16]) b (fun j i σ hij hI => ?_) ⟨_, _, _, _, _, _, rfl⟩
    obtain ⟨p10, p11, p12, p13, p14, p15, rfl⟩ := hI
    have hj : j < b.length := by
      rcases Nat.lt_or_ge j b.length with h' | h'
      · exact h'
      · rw [List.getElem?_eq_none h'] at hij; cases hij
    have l1 := cornT_len (b := b) j
    have l2 : 2 ^ j ≤ 2 ^ 4 := Nat.pow_le_pow_right (by omega) (by omega)
    have a1 : evSs C43 NN (takeS 2 B4) [s0, s1, s2, s3, some (bxD b), o5, some (.list ((cornT b j).map pD)), o7, o8, o9, some (qD i.1), some (qD i.2), p12, p13, p14, p15, o16] = some (.nx [s0, s1, s2, s3, some (bxD b), o5, some (.list ((cornT b j).map pD)), o7, o8, o9, some (qD i.1), some (qD i.2), some (.list ((endsR i).map qD)), p13, p14, p15, o16]) := by
      unfold endsR
      by_cases c : i.1 = i.2
      · rw [if_pos c]; simp [B4, B43, d_law_k43, hdS, forB, takeS, dropS, c_eq_q, c]
      · rw [if_neg c]; simp [B4, B43, d_law_k43, hdS, forB, takeS, dropS, c_eq_q, c]
    obtain ⟨p, hp⟩ := inner (s0 := s0) (s1 := s1) (s2 := s2) (s3 := s3) (s4 := some (bxD b)) (s5 := o5) (cornT b j) (endsR i) (by omega) (fun p m => by have := cornT_each j p m; omega) (ends_len i) o7 o8 o9 (some (qD i.1)) (some (qD i.2)) p13 p14 p15 o16
    have hs := cornT_succ hij
    unfold stepR at hs
    rw [← hs] at hp
    refine ⟨_, ?_, ⟨some (qD i.1), some (qD i.2), some (.list ((endsR i).map qD)), some (.list ((cornT b (j + 1)).map pD)), p, p15, rfl⟩⟩
    simp only [iD, P.bindT_tp, P.bindTs_cons, P.bindT_nm, P.bindTs_nil, P.bind_some', P.sset_zero, P.sset_succ]
    rw [split_ss C43 NN 2 B4, a1]
    exact hp
  obtain ⟨σ', e, p10, p11, p12, p13, p14, p15, rfl⟩ := key
  rw [cornT_all] at e
  refine ⟨p10, p11, p12, p13, p14, p15, ?_⟩
  exact congrArg (fun o => Option.bind o (P.thenS C43 NN .nil)) e

theorem st5 {ns : List Int} {ds : List Int} {n t q : Nat} {b : List Iv} (hl : ds.length = 14) (hd : ∀ d ∈ ds, 0 ≤ d ∧ d < 4096) (n1 : 1 ≤ n) (n4 : n ≤ 4) (hb : b.length = n) (hi : gB b) (hq : q < n) (o7 o8 o9 o10 o11 o12 o13 o14 o15 o16 : Option D) :
    ∃ p7 p8 p9 p10 p11, evSs C43 NN (dropS 11 B43) [some (roD ns), some (.int (t : Int)), some (.list (ds.map .int)), some (.int (n : Int)), some (bxD b), some (.int (q : Int)), some (.list ((cornR b).map pD)), o7, o8, o9, o10, o11, o12, o13, o14, o15, o16] = some (.nx [some (roD ns), some (.int (t : Int)), some (.list (ds.map .int)), some (.int (n : Int)), some (bxD b), some (.int (q : Int)), some (.list ((cornR b).map pD)), p7, p8, p9, p10, p11, o12, o13, o14, o15, o16]) := by
  obtain ⟨d12, p12, a12⟩ := at_ds hl hd 12 (by omega)
  obtain ⟨d13, p13, a13⟩ := at_ds hl hd 13 (by omega)
  have a12' : ixD (ds.map .int) 12 = some (.int d12) := a12
  have a13' : ixD (ds.map .int) 13 = some (.int d13) := a13
  have md12 : binop .mod (.int d12) (.int 6) = some (.int (d12 % 6)) := P.b_mod (by decide)
  have md13 : binop .mod (.int d13) (.int 24) = some (.int (d13 % 24)) := P.b_mod (by decide)
  have hs : ∀ i ∈ b, szI 1000 i := fun i m => ⟨by have := (hi i m).2.1; omega, by have := (hi i m).2.2; omega⟩
  have y1 := corners_sem (b := b) (k := 30) (by omega) (by omega)
  have l1 := cornT_len (b := b) b.length
  have l2 : 2 ^ b.length ≤ 2 ^ 4 := Nat.pow_le_pow_right (by omega) (by omega)
  rw [cornT_all] at l1
  have y2 := same_ok (d := .list ((cornR b).map pD)) (okD_mono (m := 3) (okD_list (fun x m => by
    obtain ⟨p, hp, rfl⟩ := List.mem_map.mp m
    have := cornT_each b.length p (by rw [cornT_all]; exact hp)
    exact okD_qs (l := p) (g := fun x => x) (by omega)) (by simp; unfold lim; omega)) (by omega))
  obtain ⟨i, hiq⟩ := some_at (l := b) (n := q) (by omega)
  have xi := bx_at hiq
  have si := hs i (List.mem_of_getElem? hiq)
  have gi := (hi i (List.mem_of_getElem? hiq)).1
  have s1 : sz 1 ≤ 2 := by decide +kernel
  have z1 := sz_add i.2 1
  have y3 := l_add_sem (x := i.2) (y := 1) (k := 30) (by have := si.2; omega) (by omega)
  rw [one_q] at y3
  have m1 : mulOk 2 i.1.num = true := mulOk_of (m := 2) (by decide) (sz_num i.1) (by have := si.1; omega)
  have m2 : mulOk 2 i.1.den = true := mulOk_of (m := 2) (by decide) (sz_den i.1) (by have := si.1; omega)
  have nob : ∀ x ∈ [iD (i.2 + 1, i.1), .list [qD i.1, qD i.2], .tuple [qD i.1], qD i.1, .tuple [.tuple [.int (2 * i.1.num), .int (2 * i.1.den)], qD i.2], .none], noI 29 x := by
    intro x hx
    simp only [List.mem_cons, List.not_mem_nil, or_false] at hx
    rcases hx with rfl | rfl | rfl | rfl | rfl | rfl
    · have := is_interval_sem (i := (i.2 + 1, i.1)) (k := 29) ⟨by show sz (i.2 + 1) ≤ 1000; have := (hi i (List.mem_of_getElem? hiq)).2.2; omega, si.1⟩ (by omega)
      have no : ¬ (i.2 + 1 ≤ i.1) := by
        intro h
        have h1 : i.2 + 1 ≤ i.2 := Rat.le_trans h gi
        have h2 : i.2 + 1 ≤ i.2 + 0 := by rw [Rat.add_zero]; exact h1
        exact absurd (Rat.add_le_add_left.mp h2) (by decide +kernel)
      unfold noI
      rw [this]
      simp [no]
    · exact noI_list (by omega)
    · exact noI_one (by omega)
    · exact noI_num (by omega)
    · exact noI_twice (by omega)
    · exact noI_none (by omega)
  obtain ⟨bad, hbad⟩ : ∃ bad : List D, bad = [iD (i.2 + 1, i.1), .list [qD i.1, qD i.2], .tuple [qD i.1], qD i.1, .tuple [.tuple [.int (2 * i.1.num), .int (2 * i.1.den)], qD i.2], .none] := ⟨_, rfl⟩
  have r1 := Int.emod_nonneg d12 (b := 6) (by decide)
  have r2 := Int.emod_lt_of_pos d12 (b := 6) (by decide)
  obtain ⟨j, hj⟩ : ∃ j : Nat, d12 % 6 = j := ⟨(d12 % 6).toNat, by omega⟩
  obtain ⟨x, hx⟩ := some_at (l := bad) (n := j) (by rw [hbad]; simp; omega)
  have ax : ixD bad (j : Int) = some x := P.ixD_nat hx
  have nx : noI 29 x := nob x (by rw [← hbad]; exact List.mem_of_getElem? hx)
  have r3 := Int.emod_nonneg d13 (b := 24) (by decide)
  have r4 := Int.emod_lt_of_pos d13 (b := 24) (by decide)
  obtain ⟨w, hw⟩ : ∃ j : Nat, d13 % 24 = j := ⟨(d13 % 24).toNat, by omega⟩
  obtain ⟨v, hv⟩ := some_at (l := valsL) (n := w) (by show w < 24; omega)
  have av : ixD valsL (w : Int) = some v := P.ixD_nat hv
  have y4 := value_no (v := v) (n := (n : Int)) (List.mem_of_getElem? hv) (by omega) (by omega)
  have y5 : ∀ xs, fnSem TT NN 30 f_is_box [.int (n : Int), .list xs] = some (.bool false) := fun xs => is_box_list (by omega)
  have y6 : fnSem TT NN 30 f_is_box [.int (n : Int), .tuple ((b.map iD).take q ++ [x] ++ (b.map iD).drop (q + 1))] = some (.bool false) := is_box_bad (k := 29) (fun d m => by
    have key : ∀ d ∈ b.map iD, ∃ g : Bool, fnSem TT NN 29 f_is_interval [d] = some (.bool g) := fun d m => by
      obtain ⟨i, hm, rfl⟩ := List.mem_map.mp m
      exact ⟨_, is_interval_sem (hs i hm) (by omega)⟩
    rcases List.mem_append.mp m with m | m
    · rcases List.mem_append.mp m with m | m
      · exact key d (List.mem_of_mem_take m)
      · rw [List.mem_singleton.mp m]; exact ⟨false, nx⟩
    · exact key d (List.mem_of_mem_drop m)) ⟨x, by simp, nx⟩ _
  have a1 : binop .add (.tuple ((b.map iD).take q)) (.tuple [x]) = some (.tuple ((b.map iD).take q ++ [x])) := P.b_addt (by simp; unfold lim; omega)
  have a2 : binop .add (.tuple ((b.map iD).take q ++ [x])) (.tuple ((b.map iD).drop (q + 1))) = some (.tuple ((b.map iD).take q ++ [x] ++ (b.map iD).drop (q + 1))) := P.b_addt (by simp; unfold lim; omega)
  have c1 := cut_from (b.map iD) (q + 1)
  have c2 := cut_to (b.map iD) q
  have c1' : cut (b.map iD) (some ((q : Int) + 1)) none = (b.map iD).drop (q + 1) := c1
  have g1 : getD (bxD b) (.int (q : Int)) = some (iD i) := xi
  have g2 : cutD (bxD b) none (some (q : Int)) = some (.tuple ((b.map iD).take q)) := congrArg (fun x => some (PyData.tuple x)) c2
  have g3 : cutD (bxD b) (some ((q : Int) + 1)) none = some (.tuple ((b.map iD).drop (q + 1))) := congrArg (fun x => some (PyData.tuple x)) c1'
  have g4 : bltop .list [bxD b] = some (.list (b.map iD)) := rfl
  have y7 := l_values_sem (k := 30) (by omega)
  have vl : ((valsL.length : Nat) : Int) = 24 := rfl
  have un : ∀ σ : Sl, bindT (.tp (.cons (.nm 10) (.cons (.nm 11) .nil))) (iD i) σ = some (sset (sset σ 10 (some (qD i.1))) 11 (some (qD i.2))) := fun σ => rfl
  have q0 : getD (qD i.1) (.int 0) = some (.int i.1.num) := ix0 _ _
  have q1 : getD (qD i.1) (.int 1) = some (.int i.1.den) := ix1 _ _ _
  rw [show iD (i.2 + 1, i.1) = .tuple [qD (i.2 + 1), qD i.1] from rfl] at hbad
  simp [B43, d_law_k43, hdS, forB, takeS, dropS, y1, y2, g1, un, y3, q0, q1, P.b_mul m1, P.b_mul m2]
  rw [← hbad]
  simp at a2 y6
  simp [a12', md12, hj, ax, g2, g3, a1, a2, y6, g4, y5, y7, a13', md13, vl, hw, av, y4]
theorem turn_ok {ns : List Int} (hb : ∀ z ∈ ns, Builtin.Int.intBits z ≤ 1048576) (t : Nat) (o2 o3 o4 o5 o6 o7 o8 o9 o10 o11 o12 o13 o14 o15 o16 : Option D) :
    ∃ p2 p3 p4 p5 p6 p7 p8 p9 p10 p11 p12 p13 p14 p15 p16, evSs C43 NN B43 [some (roD ns), some (.int (t : Int)), o2, o3, o4, o5, o6, o7, o8, o9, o10, o11, o12, o13, o14, o15, o16] = some (.nx [some (roD ns), some (.int (t : Int)), p2, p3, p4, p5, p6, p7, p8, p9, p10, p11, p12, p13, p14, p15, p16]) := by
  obtain ⟨ds, n, b, hl, hd, n1, n4, hbl, hbi, e1⟩ := st1 hb t o2 o3 o4 o5 o6 o7 o8 o9 o10 o11 o12 o13 o14 o15 o16
  obtain ⟨b', hb', gb, e2⟩ := st2 (ns := ns) (t := t) hl hd n1 n4 hbl hbi o5 o6 o7 o8 o9 o10 o11 o12 o13 o14 o15 o16
  obtain ⟨q, hq, e3⟩ := st3 (ns := ns) (t := t) hl hd n1 n4 hb' gb o5 o6 o7 o8 o9 o10 o11 o12 o13 o14 o15 o16
  obtain ⟨p10, p11, p12, p13, p14, p15, e4⟩ := st4 (s0 := some (roD ns)) (s1 := some (.int (t : Int))) (s2 := some (.list (ds.map .int))) (s3 := some (.int (n : Int))) (o5 := some (.int (q : Int))) n4 hb' o7 o8 o9 o10 o11 o12 o13 o14 o15 o16
  obtain ⟨p7, p8, p9, q10, q11, e5⟩ := st5 (ns := ns) (t := t) hl hd n1 n4 hb' gb hq o7 o8 o9 p10 p11 p12 p13 p14 p15 o16
  have all := chain_ss (ss := B43) 3 e1 (chain_ss (ss := dropS 3 B43) 1 e2 (chain_ss (ss := dropS 4 B43) 6 e3 (chain_ss (ss := dropS 10 B43) 1 e4 e5)))
  exact ⟨_, _, _, _, _, _, _, _, _, _, _, _, _, _, _, all⟩
theorem law_k43_true : ∀ ns : List Int, ns.length ≤ 63 → (∀ z ∈ ns, Builtin.Int.intBits z ≤ 1048576) → fnSem T_k43 NN_k43 (dep_k43 + 1) f_law_k43 [roD ns] = some (.bool true) := by
  intro ns _ hb
  show fnSem TT NN (30 + 1) f_law_k43 [roD ns] = _
  have r : itemsOf .rng [.int 2] = some (rangeD 0 2) := P.i_rng (n := 2) (by decide) (by decide)
  have key : ∃ σ', forGo (fun d σ => (bindT (.nm 1) d σ).bind fun σ' => evSs C43 NN B43 σ') (rangeD 0 2) [some (roD ns), none, none, none, none, none, none, none, none, none, none, none, none, none, none, none, none] = some (.nx σ') ∧ ∃ o1 o2 o3 o4 o5 o6 o7 o8 o9 o10 o11 o12 o13 o14 o15 o16, σ' = [some (roD ns), o1, o2, o3, o4, o5, o6, o7, o8, o9, o10, o11, o12, o13, o14, o15, o16] := by
    refine forGo_inv (a := 0) (n := 2) (fun i σ => ∃ o1 o2 o3 o4 o5 o6 o7 o8 o9 o10 o11 o12 o13 o14 o15 o16, σ = [some (roD ns), o1, o2, o3, o4, o5, o6, o7, o8, o9, o10, o11, o12, o13, o14, o15, o16]) (fun i σ hi hI => ?_) ⟨_, _, _, _, _, _, _, _, _, _, _, _, _, _, _, _, rfl⟩
    obtain ⟨o1, o2, o3, o4, o5, o6, o7, o8, o9, o10, o11, o12, o13, o14, o15, o16, rfl⟩ := hI
    obtain ⟨p2, p3, p4, p5, p6, p7, p8, p9, p10, p11, p12, p13, p14, p15, p16, e⟩ := turn_ok hb i o2 o3 o4 o5 o6 o7 o8 o9 o10 o11 o12 o13 o14 o15 o16
    refine ⟨_, .inl ?_, ⟨some (.int (i : Int)), p2, p3, p4, p5, p6, p7, p8, p9, p10, p11, p12, p13, p14, p15, p16, rfl⟩⟩
    rw [Int.zero_add]
    exact e
  obtain ⟨σ', e, o1, o2, o3, o4, o5, o6, o7, o8, o9, o10, o11, o12, o13, o14, o15, o16, rfl⟩ := key
  rw [sem_of (fn := d_law_k43) rfl, d_law_k43, runFn_of (by rfl)]
  show ((((itemsOf .rng [.int 2]).bind fun its => forGo (fun d σ => (bindT (.nm 1) d σ).bind fun σ' => evSs C43 NN B43 σ') its [some (roD ns), none, none, none, none, none, none, none, none, none, none, none, none, none, none, none, none]).bind (P.thenS C43 NN (.cons (.ret (.bl true)) .nil))).bind _) = _
  rw [r]
  show (((forGo (fun d σ => (bindT (.nm 1) d σ).bind fun σ' => evSs C43 NN B43 σ') (rangeD 0 2) [some (roD ns), none, none, none, none, none, none, none, none, none, none, none, none, none, none, none, none]).bind (P.thenS C43 NN (.cons (.ret (.bl true)) .nil))).bind _) = _
  rw [e]
  rfl
end Ev

set_option Elab.async false
set_option linter.all false
set_option maxRecDepth 100000
namespace Ev
open PySem L2
def topS (i : Nat) : Stmt := PySem.Challenge.pw_rootfast_k43_boxes.main.body.getD i (.Pass ⟨0, 0, 0, 0⟩)
theorem sc_number : FnScope [Str.ofString "a", Str.ofString "b", Str.ofString "common"] [Str.ofString "a", Str.ofString "b"] (defScope (topS 5)) := ⟨rfl, rfl, rfl, by decide +kernel, rfl, by decide +kernel, by decide +kernel⟩
theorem ck_number : isFn L_k43 [Str.ofString "a", Str.ofString "b", Str.ofString "common"] [Str.ofString "a", Str.ofString "b"] d_number (topS 5) = true := by decide +kernel
theorem sc_is_integer : FnScope [Str.ofString "value"] [Str.ofString "value"] (defScope (topS 6)) := ⟨rfl, rfl, rfl, by decide +kernel, rfl, by decide +kernel, by decide +kernel⟩
theorem ck_is_integer : isFn L_k43 [Str.ofString "value"] [Str.ofString "value"] d_is_integer (topS 6) = true := by decide +kernel
theorem sc_is_number : FnScope [Str.ofString "value", Str.ofString "a", Str.ofString "b"] [Str.ofString "value"] (defScope (topS 7)) := ⟨rfl, rfl, rfl, by decide +kernel, rfl, by decide +kernel, by decide +kernel⟩
theorem ck_is_number : isFn L_k43 [Str.ofString "value", Str.ofString "a", Str.ofString "b"] [Str.ofString "value"] d_is_number (topS 7) = true := by decide +kernel
theorem sc_plus : FnScope [Str.ofString "x", Str.ofString "y"] [Str.ofString "x", Str.ofString "y"] (defScope (topS 8)) := ⟨rfl, rfl, rfl, by decide +kernel, rfl, by decide +kernel, by decide +kernel⟩
theorem ck_plus : isFn L_k43 [Str.ofString "x", Str.ofString "y"] [Str.ofString "x", Str.ofString "y"] d_plus (topS 8) = true := by decide +kernel
theorem sc_minus : FnScope [Str.ofString "x", Str.ofString "y"] [Str.ofString "x", Str.ofString "y"] (defScope (topS 9)) := ⟨rfl, rfl, rfl, by decide +kernel, rfl, by decide +kernel, by decide +kernel⟩
theorem ck_minus : isFn L_k43 [Str.ofString "x", Str.ofString "y"] [Str.ofString "x", Str.ofString "y"] d_minus (topS 9) = true := by decide +kernel
theorem sc_compare : FnScope [Str.ofString "x", Str.ofString "y", Str.ofString "difference"] [Str.ofString "x", Str.ofString "y"] (defScope (topS 10)) := ⟨rfl, rfl, rfl, by decide +kernel, rfl, by decide +kernel, by decide +kernel⟩
theorem ck_compare : isFn L_k43 [Str.ofString "x", Str.ofString "y", Str.ofString "difference"] [Str.ofString "x", Str.ofString "y"] d_compare (topS 10) = true := by decide +kernel
theorem sc_half : FnScope [Str.ofString "x"] [Str.ofString "x"] (defScope (topS 11)) := ⟨rfl, rfl, rfl, by decide +kernel, rfl, by decide +kernel, by decide +kernel⟩
theorem ck_half : isFn L_k43 [Str.ofString "x"] [Str.ofString "x"] d_half (topS 11) = true := by decide +kernel
theorem sc_is_interval : FnScope [Str.ofString "value"] [Str.ofString "value"] (defScope (topS 13)) := ⟨rfl, rfl, rfl, by decide +kernel, rfl, by decide +kernel, by decide +kernel⟩
theorem ck_is_interval : isFn L_k43 [Str.ofString "value"] [Str.ofString "value"] d_is_interval (topS 13) = true := by decide +kernel
theorem sc_middle_of : FnScope [Str.ofString "i"] [Str.ofString "i"] (defScope (topS 14)) := ⟨rfl, rfl, rfl, by decide +kernel, rfl, by decide +kernel, by decide +kernel⟩
theorem ck_middle_of : isFn L_k43 [Str.ofString "i"] [Str.ofString "i"] d_middle_of (topS 14) = true := by decide +kernel
theorem sc_width_of : FnScope [Str.ofString "i"] [Str.ofString "i"] (defScope (topS 15)) := ⟨rfl, rfl, rfl, by decide +kernel, rfl, by decide +kernel, by decide +kernel⟩
theorem ck_width_of : isFn L_k43 [Str.ofString "i"] [Str.ofString "i"] d_width_of (topS 15) = true := by decide +kernel
theorem sc_is_box : FnScope [Str.ofString "n", Str.ofString "value", Str.ofString "interval"] [Str.ofString "n", Str.ofString "value"] (defScope (topS 17)) := ⟨rfl, rfl, rfl, by decide +kernel, rfl, by decide +kernel, by decide +kernel⟩
theorem ck_is_box : isFn L_k43 [Str.ofString "n", Str.ofString "value", Str.ofString "interval"] [Str.ofString "n", Str.ofString "value"] d_is_box (topS 17) = true := by decide +kernel
theorem sc_box_middle : FnScope [Str.ofString "box", Str.ofString "interval"] [Str.ofString "box"] (defScope (topS 18)) := ⟨rfl, rfl, rfl, by decide +kernel, rfl, by decide +kernel, by decide +kernel⟩
theorem ck_box_middle : isFn L_k43 [Str.ofString "box", Str.ofString "interval"] [Str.ofString "box"] d_box_middle (topS 18) = true := by decide +kernel
theorem sc_box_widths : FnScope [Str.ofString "box", Str.ofString "interval"] [Str.ofString "box"] (defScope (topS 19)) := ⟨rfl, rfl, rfl, by decide +kernel, rfl, by decide +kernel, by decide +kernel⟩
theorem ck_box_widths : isFn L_k43 [Str.ofString "box", Str.ofString "interval"] [Str.ofString "box"] d_box_widths (topS 19) = true := by decide +kernel
theorem sc_longest : FnScope [Str.ofString "box", Str.ofString "widths", Str.ofString "best", Str.ofString "k"] [Str.ofString "box"] (defScope (topS 20)) := ⟨rfl, rfl, rfl, by decide +kernel, rfl, by decide +kernel, by decide +kernel⟩
theorem ck_longest : isFn L_k43 [Str.ofString "box", Str.ofString "widths", Str.ofString "best", Str.ofString "k"] [Str.ofString "box"] d_longest (topS 20) = true := by decide +kernel
theorem sc_with_interval : FnScope [Str.ofString "box", Str.ofString "k", Str.ofString "interval"] [Str.ofString "box", Str.ofString "k", Str.ofString "interval"] (defScope (topS 21)) := ⟨rfl, rfl, rfl, by decide +kernel, rfl, by decide +kernel, by decide +kernel⟩
theorem ck_with_interval : isFn L_k43 [Str.ofString "box", Str.ofString "k", Str.ofString "interval"] [Str.ofString "box", Str.ofString "k", Str.ofString "interval"] d_with_interval (topS 21) = true := by decide +kernel
theorem sc_halves : FnScope [Str.ofString "box", Str.ofString "k", Str.ofString "middle", Str.ofString "low", Str.ofString "high"] [Str.ofString "box", Str.ofString "k"] (defScope (topS 22)) := ⟨rfl, rfl, rfl, by decide +kernel, rfl, by decide +kernel, by decide +kernel⟩
theorem ck_halves : isFn L_k43 [Str.ofString "box", Str.ofString "k", Str.ofString "middle", Str.ofString "low", Str.ofString "high"] [Str.ofString "box", Str.ofString "k"] d_halves (topS 22) = true := by decide +kernel
theorem sc_corners : FnScope [Str.ofString "box", Str.ofString "found", Str.ofString "low", Str.ofString "high", Str.ofString "ends", Str.ofString "before", Str.ofString "end"] [Str.ofString "box"] (defScope (topS 23)) := ⟨rfl, rfl, rfl, by decide +kernel, rfl, by decide +kernel, by decide +kernel⟩
theorem ck_corners : isFn L_k43 [Str.ofString "box", Str.ofString "found", Str.ofString "low", Str.ofString "high", Str.ofString "ends", Str.ofString "before", Str.ofString "end"] [Str.ofString "box"] d_corners (topS 23) = true := by decide +kernel
theorem sc_l_cell : FnScope [Str.ofString "script", Str.ofString "k"] [Str.ofString "script", Str.ofString "k"] (defScope (topS 25)) := ⟨rfl, rfl, rfl, by decide +kernel, rfl, by decide +kernel, by decide +kernel⟩
theorem ck_l_cell : isFn L_k43 [Str.ofString "script", Str.ofString "k"] [Str.ofString "script", Str.ofString "k"] d_l_cell (topS 25) = true := by decide +kernel
theorem sc_l_draws : FnScope [Str.ofString "cell", Str.ofString "count", Str.ofString "rows", Str.ofString "left", Str.ofString "k", Str.ofString "mixed"] [Str.ofString "cell", Str.ofString "count"] (defScope (topS 26)) := ⟨rfl, rfl, rfl, by decide +kernel, rfl, by decide +kernel, by decide +kernel⟩
theorem ck_l_draws : isFn L_k43 [Str.ofString "cell", Str.ofString "count", Str.ofString "rows", Str.ofString "left", Str.ofString "k", Str.ofString "mixed"] [Str.ofString "cell", Str.ofString "count"] d_l_draws (topS 26) = true := by decide +kernel
theorem sc_l_is_int : FnScope [Str.ofString "x"] [Str.ofString "x"] (defScope (topS 27)) := ⟨rfl, rfl, rfl, by decide +kernel, rfl, by decide +kernel, by decide +kernel⟩
theorem ck_l_is_int : isFn L_k43 [Str.ofString "x"] [Str.ofString "x"] d_l_is_int (topS 27) = true := by decide +kernel
theorem sc_l_is_text : FnScope [Str.ofString "x", Str.ofString "due"] [Str.ofString "x", Str.ofString "due"] (defScope (topS 28)) := ⟨rfl, rfl, rfl, by decide +kernel, rfl, by decide +kernel, by decide +kernel⟩
theorem ck_l_is_text : isFn L_k43 [Str.ofString "x", Str.ofString "due"] [Str.ofString "x", Str.ofString "due"] d_l_is_text (topS 28) = true := by decide +kernel
theorem sc_l_is_number : FnScope [Str.ofString "x", Str.ofString "due"] [Str.ofString "x", Str.ofString "due"] (defScope (topS 29)) := ⟨rfl, rfl, rfl, by decide +kernel, rfl, by decide +kernel, by decide +kernel⟩
theorem ck_l_is_number : isFn L_k43 [Str.ofString "x", Str.ofString "due"] [Str.ofString "x", Str.ofString "due"] d_l_is_number (topS 29) = true := by decide +kernel
theorem sc_l_gcd : FnScope [Str.ofString "a", Str.ofString "b"] [Str.ofString "a", Str.ofString "b"] (defScope (topS 30)) := ⟨rfl, rfl, rfl, by decide +kernel, rfl, by decide +kernel, by decide +kernel⟩
theorem ck_l_gcd : isFn L_k43 [Str.ofString "a", Str.ofString "b"] [Str.ofString "a", Str.ofString "b"] d_l_gcd (topS 30) = true := by decide +kernel
theorem sc_l_frac : FnScope [Str.ofString "a", Str.ofString "b", Str.ofString "common"] [Str.ofString "a", Str.ofString "b"] (defScope (topS 31)) := ⟨rfl, rfl, rfl, by decide +kernel, rfl, by decide +kernel, by decide +kernel⟩
theorem ck_l_frac : isFn L_k43 [Str.ofString "a", Str.ofString "b", Str.ofString "common"] [Str.ofString "a", Str.ofString "b"] d_l_frac (topS 31) = true := by decide +kernel
theorem sc_l_add : FnScope [Str.ofString "x", Str.ofString "y"] [Str.ofString "x", Str.ofString "y"] (defScope (topS 32)) := ⟨rfl, rfl, rfl, by decide +kernel, rfl, by decide +kernel, by decide +kernel⟩
theorem ck_l_add : isFn L_k43 [Str.ofString "x", Str.ofString "y"] [Str.ofString "x", Str.ofString "y"] d_l_add (topS 32) = true := by decide +kernel
theorem sc_l_neg : FnScope [Str.ofString "x"] [Str.ofString "x"] (defScope (topS 33)) := ⟨rfl, rfl, rfl, by decide +kernel, rfl, by decide +kernel, by decide +kernel⟩
theorem ck_l_neg : isFn L_k43 [Str.ofString "x"] [Str.ofString "x"] d_l_neg (topS 33) = true := by decide +kernel
theorem sc_l_sub : FnScope [Str.ofString "x", Str.ofString "y"] [Str.ofString "x", Str.ofString "y"] (defScope (topS 34)) := ⟨rfl, rfl, rfl, by decide +kernel, rfl, by decide +kernel, by decide +kernel⟩
theorem ck_l_sub : isFn L_k43 [Str.ofString "x", Str.ofString "y"] [Str.ofString "x", Str.ofString "y"] d_l_sub (topS 34) = true := by decide +kernel
theorem sc_l_mul : FnScope [Str.ofString "x", Str.ofString "y"] [Str.ofString "x", Str.ofString "y"] (defScope (topS 35)) := ⟨rfl, rfl, rfl, by decide +kernel, rfl, by decide +kernel, by decide +kernel⟩
theorem ck_l_mul : isFn L_k43 [Str.ofString "x", Str.ofString "y"] [Str.ofString "x", Str.ofString "y"] d_l_mul (topS 35) = true := by decide +kernel
theorem sc_l_less : FnScope [Str.ofString "x", Str.ofString "y"] [Str.ofString "x", Str.ofString "y"] (defScope (topS 36)) := ⟨rfl, rfl, rfl, by decide +kernel, rfl, by decide +kernel, by decide +kernel⟩
theorem ck_l_less : isFn L_k43 [Str.ofString "x", Str.ofString "y"] [Str.ofString "x", Str.ofString "y"] d_l_less (topS 36) = true := by decide +kernel
theorem sc_l_least : FnScope [Str.ofString "x", Str.ofString "y"] [Str.ofString "x", Str.ofString "y"] (defScope (topS 37)) := ⟨rfl, rfl, rfl, by decide +kernel, rfl, by decide +kernel, by decide +kernel⟩
theorem ck_l_least : isFn L_k43 [Str.ofString "x", Str.ofString "y"] [Str.ofString "x", Str.ofString "y"] d_l_least (topS 37) = true := by decide +kernel
theorem sc_l_most : FnScope [Str.ofString "x", Str.ofString "y"] [Str.ofString "x", Str.ofString "y"] (defScope (topS 38)) := ⟨rfl, rfl, rfl, by decide +kernel, rfl, by decide +kernel, by decide +kernel⟩
theorem ck_l_most : isFn L_k43 [Str.ofString "x", Str.ofString "y"] [Str.ofString "x", Str.ofString "y"] d_l_most (topS 38) = true := by decide +kernel
theorem sc_l_same : FnScope [Str.ofString "x", Str.ofString "due", Str.ofString "k"] [Str.ofString "x", Str.ofString "due"] (defScope (topS 39)) := ⟨rfl, rfl, rfl, by decide +kernel, rfl, by decide +kernel, by decide +kernel⟩
theorem ck_l_same : isFn L_k43 [Str.ofString "x", Str.ofString "due", Str.ofString "k"] [Str.ofString "x", Str.ofString "due"] d_l_same (topS 39) = true := by decide +kernel
theorem sc_l_small : FnScope [Str.ofString "draw"] [Str.ofString "draw"] (defScope (topS 40)) := ⟨rfl, rfl, rfl, by decide +kernel, rfl, by decide +kernel, by decide +kernel⟩
theorem ck_l_small : isFn L_k43 [Str.ofString "draw"] [Str.ofString "draw"] d_l_small (topS 40) = true := by decide +kernel
theorem sc_l_span : FnScope [Str.ofString "draw", Str.ofString "more", Str.ofString "first", Str.ofString "second"] [Str.ofString "draw", Str.ofString "more"] (defScope (topS 41)) := ⟨rfl, rfl, rfl, by decide +kernel, rfl, by decide +kernel, by decide +kernel⟩
theorem ck_l_span : isFn L_k43 [Str.ofString "draw", Str.ofString "more", Str.ofString "first", Str.ofString "second"] [Str.ofString "draw", Str.ofString "more"] d_l_span (topS 41) = true := by decide +kernel
theorem sc_l_values : FnScope [Str.ofString "found"] [] (defScope (topS 42)) := ⟨rfl, rfl, rfl, by decide +kernel, rfl, by decide +kernel, by decide +kernel⟩
theorem ck_l_values : isFn L_k43 [Str.ofString "found"] [] d_l_values (topS 42) = true := by decide +kernel
theorem sc_l_middle : FnScope [Str.ofString "low", Str.ofString "high"] [Str.ofString "low", Str.ofString "high"] (defScope (topS 43)) := ⟨rfl, rfl, rfl, by decide +kernel, rfl, by decide +kernel, by decide +kernel⟩
theorem ck_l_middle : isFn L_k43 [Str.ofString "low", Str.ofString "high"] [Str.ofString "low", Str.ofString "high"] d_l_middle (topS 43) = true := by decide +kernel
theorem sc_l_box : FnScope [Str.ofString "n", Str.ofString "draws", Str.ofString "at", Str.ofString "k"] [Str.ofString "n", Str.ofString "draws", Str.ofString "at"] (defScope (topS 44)) := ⟨rfl, rfl, rfl, by decide +kernel, rfl, by decide +kernel, by decide +kernel⟩
theorem ck_l_box : isFn L_k43 [Str.ofString "n", Str.ofString "draws", Str.ofString "at", Str.ofString "k"] [Str.ofString "n", Str.ofString "draws", Str.ofString "at"] d_l_box (topS 44) = true := by decide +kernel
theorem sc_l_mid : FnScope [Str.ofString "box", Str.ofString "low", Str.ofString "high"] [Str.ofString "box"] (defScope (topS 45)) := ⟨rfl, rfl, rfl, by decide +kernel, rfl, by decide +kernel, by decide +kernel⟩
theorem ck_l_mid : isFn L_k43 [Str.ofString "box", Str.ofString "low", Str.ofString "high"] [Str.ofString "box"] d_l_mid (topS 45) = true := by decide +kernel
theorem sc_l_longest : FnScope [Str.ofString "box", Str.ofString "best", Str.ofString "k"] [Str.ofString "box"] (defScope (topS 46)) := ⟨rfl, rfl, rfl, by decide +kernel, rfl, by decide +kernel, by decide +kernel⟩
theorem ck_l_longest : isFn L_k43 [Str.ofString "box", Str.ofString "best", Str.ofString "k"] [Str.ofString "box"] d_l_longest (topS 46) = true := by decide +kernel
theorem sc_l_halves : FnScope [Str.ofString "box", Str.ofString "k", Str.ofString "middle"] [Str.ofString "box", Str.ofString "k"] (defScope (topS 47)) := ⟨rfl, rfl, rfl, by decide +kernel, rfl, by decide +kernel, by decide +kernel⟩
theorem ck_l_halves : isFn L_k43 [Str.ofString "box", Str.ofString "k", Str.ofString "middle"] [Str.ofString "box", Str.ofString "k"] d_l_halves (topS 47) = true := by decide +kernel
theorem sc_law_k43 : FnScope [Str.ofString "script", Str.ofString "turn", Str.ofString "draws", Str.ofString "n", Str.ofString "box", Str.ofString "k", Str.ofString "due", Str.ofString "bad", Str.ofString "odd", Str.ofString "value", Str.ofString "low", Str.ofString "high", Str.ofString "ends", Str.ofString "longer", Str.ofString "point", Str.ofString "end", Str.ofString "x"] [Str.ofString "script"] (defScope (topS 48)) := ⟨rfl, rfl, rfl, by decide +kernel, rfl, by decide +kernel, by decide +kernel⟩
theorem ck_law_k43 : isFn L_k43 [Str.ofString "script", Str.ofString "turn", Str.ofString "draws", Str.ofString "n", Str.ofString "box", Str.ofString "k", Str.ofString "due", Str.ofString "bad", Str.ofString "odd", Str.ofString "value", Str.ofString "low", Str.ofString "high", Str.ofString "ends", Str.ofString "longer", Str.ofString "point", Str.ofString "end", Str.ofString "x"] [Str.ofString "script"] d_law_k43 (topS 48) = true := by decide +kernel
end Ev

set_option Elab.async false
set_option linter.all false
set_option maxRecDepth 100000
namespace Ev
open PySem PySem.Spec PyProof.Rows L2
theorem def1_mk {L : Lk} {T : Nat → Option Fn} {K : PySem.W.Frag} {h : Heap} {mg : Str → Option Value} (X : K.In h) (G : h.Ns mainGlobals mg) {f : Nat} {x : Str} {st : Stmt} {fn : Fn} {N ps : List Str} {a : Addr} {od an : Option Addr} {sl : Array (Option Value)} {oc kV dc pm cd ct : Value}
    (hT : T f = some fn) (S : FnScope N ps (defScope st)) (hk : isFn L N ps fn st = true) (hmu : L.mu.contains f = fn.mu) (hfr : L.fr.contains f = fn.fr)
    (hb : ∀ (kV doc pm : Value) (an : Option Addr) (cdv ct : Value) (us : List Value), us.length = ps.length → bindArgs (PySem.W.fnOf x x (defArgs st) (defBody st) (defScope st) .none kV doc pm an cdv ct) ⟨us, []⟩ = pure (ps.zip us))
    (ha : PySem.W.nsIn K mainGlobals x = some (some (.ref a))) (hl : K.lookup a = some ⟨oc, od, .func (PySem.W.fnOf x x (defArgs st) (defBody st) (defScope st) .none kV dc pm an cd ct), sl⟩) (hc : PySem.W.codeIn K cd x = true) (hkp : PySem.W.keepIn K (.ref a) = true) : Def1 L T K mg f x := by
  have F := fun_mk (st := st) hl hc hkp
  exact ⟨fn, a, _, ps, N, st, hT, PySem.W.mg_of X G ha, F.binds hb, F, S, hk, hmu, hfr⟩
theorem bd_number : ∀ (kV doc pm : Value) (an : Option Addr) (cdv ct : Value) (us : List Value), us.length = 0 + 1 + 1 → bindArgs (PySem.W.fnOf (Str.ofString "number") (Str.ofString "number") (defArgs (topS 5)) (defBody (topS 5)) (defScope (topS 5)) .none kV doc pm an cdv ct) ⟨us, []⟩ = pure (([Str.ofString "a", Str.ofString "b"] : List Str).zip us) := fun _ _ _ _ _ _ us hl => match us, hl with | [_, _], _ => rfl
theorem bd_is_integer : ∀ (kV doc pm : Value) (an : Option Addr) (cdv ct : Value) (us : List Value), us.length = 0 + 1 → bindArgs (PySem.W.fnOf (Str.ofString "is_integer") (Str.ofString "is_integer") (defArgs (topS 6)) (defBody (topS 6)) (defScope (topS 6)) .none kV doc pm an cdv ct) ⟨us, []⟩ = pure (([Str.ofString "value"] : List Str).zip us) := fun _ _ _ _ _ _ us hl => match us, hl with | [_], _ => rfl
theorem bd_is_number : ∀ (kV doc pm : Value) (an : Option Addr) (cdv ct : Value) (us : List Value), us.length = 0 + 1 → bindArgs (PySem.W.fnOf (Str.ofString "is_number") (Str.ofString "is_number") (defArgs (topS 7)) (defBody (topS 7)) (defScope (topS 7)) .none kV doc pm an cdv ct) ⟨us, []⟩ = pure (([Str.ofString "value"] : List Str).zip us) := fun _ _ _ _ _ _ us hl => match us, hl with | [_], _ => rfl
theorem bd_plus : ∀ (kV doc pm : Value) (an : Option Addr) (cdv ct : Value) (us : List Value), us.length = 0 + 1 + 1 → bindArgs (PySem.W.fnOf (Str.ofString "plus") (Str.ofString "plus") (defArgs (topS 8)) (defBody (topS 8)) (defScope (topS 8)) .none kV doc pm an cdv ct) ⟨us, []⟩ = pure (([Str.ofString "x", Str.ofString "y"] : List Str).zip us) := fun _ _ _ _ _ _ us hl => match us, hl with | [_, _], _ => rfl
theorem bd_minus : ∀ (kV doc pm : Value) (an : Option Addr) (cdv ct : Value) (us : List Value), us.length = 0 + 1 + 1 → bindArgs (PySem.W.fnOf (Str.ofString "minus") (Str.ofString "minus") (defArgs (topS 9)) (defBody (topS 9)) (defScope (topS 9)) .none kV doc pm an cdv ct) ⟨us, []⟩ = pure (([Str.ofString "x", Str.ofString "y"] : List Str).zip us) := fun _ _ _ _ _ _ us hl => match us, hl with | [_, _], _ => rfl
theorem bd_compare : ∀ (kV doc pm : Value) (an : Option Addr) (cdv ct : Value) (us : List Value), us.length = 0 + 1 + 1 → bindArgs (PySem.W.fnOf (Str.ofString "compare") (Str.ofString "compare") (defArgs (topS 10)) (defBody (topS 10)) (defScope (topS 10)) .none kV doc pm an cdv ct) ⟨us, []⟩ = pure (([Str.ofString "x", Str.ofString "y"] : List Str).zip us) := fun _ _ _ _ _ _ us hl => match us, hl with | [_, _], _ => rfl
theorem bd_half : ∀ (kV doc pm : Value) (an : Option Addr) (cdv ct : Value) (us : List Value), us.length = 0 + 1 → bindArgs (PySem.W.fnOf (Str.ofString "half") (Str.ofString "half") (defArgs (topS 11)) (defBody (topS 11)) (defScope (topS 11)) .none kV doc pm an cdv ct) ⟨us, []⟩ = pure (([Str.ofString "x"] : List Str).zip us) := fun _ _ _ _ _ _ us hl => match us, hl with | [_], _ => rfl
theorem bd_is_interval : ∀ (kV doc pm : Value) (an : Option Addr) (cdv ct : Value) (us : List Value), us.length = 0 + 1 → bindArgs (PySem.W.fnOf (Str.ofString "is_interval") (Str.ofString "is_interval") (defArgs (topS 13)) (defBody (topS 13)) (defScope (topS 13)) .none kV doc pm an cdv ct) ⟨us, []⟩ = pure (([Str.ofString "value"] : List Str).zip us) := fun _ _ _ _ _ _ us hl => match us, hl with | [_], _ => rfl
theorem bd_middle_of : ∀ (kV doc pm : Value) (an : Option Addr) (cdv ct : Value) (us : List Value), us.length = 0 + 1 → bindArgs (PySem.W.fnOf (Str.ofString "middle_of") (Str.ofString "middle_of") (defArgs (topS 14)) (defBody (topS 14)) (defScope (topS 14)) .none kV doc pm an cdv ct) ⟨us, []⟩ = pure (([Str.ofString "i"] : List Str).zip us) := fun _ _ _ _ _ _ us hl => match us, hl with | [_], _ => rfl
theorem bd_width_of : ∀ (kV doc pm : Value) (an : Option Addr) (cdv ct : Value) (us : List Value), us.length = 0 + 1 → bindArgs (PySem.W.fnOf (Str.ofString "width_of") (Str.ofString "width_of") (defArgs (topS 15)) (defBody (topS 15)) (defScope (topS 15)) .none kV doc pm an cdv ct) ⟨us, []⟩ = pure (([Str.ofString "i"] : List Str).zip us) := fun _ _ _ _ _ _ us hl => match us, hl with | [_], _ => rfl
theorem bd_is_box : ∀ (kV doc pm : Value) (an : Option Addr) (cdv ct : Value) (us : List Value), us.length = 0 + 1 + 1 → bindArgs (PySem.W.fnOf (Str.ofString "is_box") (Str.ofString "is_box") (defArgs (topS 17)) (defBody (topS 17)) (defScope (topS 17)) .none kV doc pm an cdv ct) ⟨us, []⟩ = pure (([Str.ofString "n", Str.ofString "value"] : List Str).zip us) := fun _ _ _ _ _ _ us hl => match us, hl with | [_, _], _ => rfl
theorem bd_box_middle : ∀ (kV doc pm : Value) (an : Option Addr) (cdv ct : Value) (us : List Value), us.length = 0 + 1 → bindArgs (PySem.W.fnOf (Str.ofString "box_middle") (Str.ofString "box_middle") (defArgs (topS 18)) (defBody (topS 18)) (defScope (topS 18)) .none kV doc pm an cdv ct) ⟨us, []⟩ = pure (([Str.ofString "box"] : List Str).zip us) := fun _ _ _ _ _ _ us hl => match us, hl with | [_], _ => rfl
theorem bd_box_widths : ∀ (kV doc pm : Value) (an : Option Addr) (cdv ct : Value) (us : List Value), us.length = 0 + 1 → bindArgs (PySem.W.fnOf (Str.ofString "box_widths") (Str.ofString "box_widths") (defArgs (topS 19)) (defBody (topS 19)) (defScope (topS 19)) .none kV doc pm an cdv ct) ⟨us, []⟩ = pure (([Str.ofString "box"] : List Str).zip us) := fun _ _ _ _ _ _ us hl => match us, hl with | [_], _ => rfl
theorem bd_longest : ∀ (kV doc pm : Value) (an : Option Addr) (cdv ct : Value) (us : List Value), us.length = 0 + 1 → bindArgs (PySem.W.fnOf (Str.ofString "longest") (Str.ofString "longest") (defArgs (topS 20)) (defBody (topS 20)) (defScope (topS 20)) .none kV doc pm an cdv ct) ⟨us, []⟩ = pure (([Str.ofString "box"] : List Str).zip us) := fun _ _ _ _ _ _ us hl => match us, hl with | [_], _ => rfl
theorem bd_with_interval : ∀ (kV doc pm : Value) (an : Option Addr) (cdv ct : Value) (us : List Value), us.length = 0 + 1 + 1 + 1 → bindArgs (PySem.W.fnOf (Str.ofString "with_interval") (Str.ofString "with_interval") (defArgs (topS 21)) (defBody (topS 21)) (defScope (topS 21)) .none kV doc pm an cdv ct) ⟨us, []⟩ = pure (([Str.ofString "box", Str.ofString "k", Str.ofString "interval"] : List Str).zip us) := fun _ _ _ _ _ _ us hl => match us, hl with | [_, _, _], _ => rfl
theorem bd_halves : ∀ (kV doc pm : Value) (an : Option Addr) (cdv ct : Value) (us : List Value), us.length = 0 + 1 + 1 → bindArgs (PySem.W.fnOf (Str.ofString "halves") (Str.ofString "halves") (defArgs (topS 22)) (defBody (topS 22)) (defScope (topS 22)) .none kV doc pm an cdv ct) ⟨us, []⟩ = pure (([Str.ofString "box", Str.ofString "k"] : List Str).zip us) := fun _ _ _ _ _ _ us hl => match us, hl with | [_, _], _ => rfl
theorem bd_corners : ∀ (kV doc pm : Value) (an : Option Addr) (cdv ct : Value) (us : List Value), us.length = 0 + 1 → bindArgs (PySem.W.fnOf (Str.ofString "corners") (Str.ofString "corners") (defArgs (topS 23)) (defBody (topS 23)) (defScope (topS 23)) .none kV doc pm an cdv ct) ⟨us, []⟩ = pure (([Str.ofString "box"] : List Str).zip us) := fun _ _ _ _ _ _ us hl => match us, hl with | [_], _ => rfl
theorem bd_l_cell : ∀ (kV doc pm : Value) (an : Option Addr) (cdv ct : Value) (us : List Value), us.length = 0 + 1 + 1 → bindArgs (PySem.W.fnOf (Str.ofString "_law_cell") (Str.ofString "_law_cell") (defArgs (topS 25)) (defBody (topS 25)) (defScope (topS 25)) .none kV doc pm an cdv ct) ⟨us, []⟩ = pure (([Str.ofString "script", Str.ofString "k"] : List Str).zip us) := fun _ _ _ _ _ _ us hl => match us, hl with | [_, _], _ => rfl
theorem bd_l_draws : ∀ (kV doc pm : Value) (an : Option Addr) (cdv ct : Value) (us : List Value), us.length = 0 + 1 + 1 → bindArgs (PySem.W.fnOf (Str.ofString "_law_draws") (Str.ofString "_law_draws") (defArgs (topS 26)) (defBody (topS 26)) (defScope (topS 26)) .none kV doc pm an cdv ct) ⟨us, []⟩ = pure (([Str.ofString "cell", Str.ofString "count"] : List Str).zip us) := fun _ _ _ _ _ _ us hl => match us, hl with | [_, _], _ => rfl
theorem bd_l_is_int : ∀ (kV doc pm : Value) (an : Option Addr) (cdv ct : Value) (us : List Value), us.length = 0 + 1 → bindArgs (PySem.W.fnOf (Str.ofString "_law_is_int") (Str.ofString "_law_is_int") (defArgs (topS 27)) (defBody (topS 27)) (defScope (topS 27)) .none kV doc pm an cdv ct) ⟨us, []⟩ = pure (([Str.ofString "x"] : List Str).zip us) := fun _ _ _ _ _ _ us hl => match us, hl with | [_], _ => rfl
theorem bd_l_is_text : ∀ (kV doc pm : Value) (an : Option Addr) (cdv ct : Value) (us : List Value), us.length = 0 + 1 + 1 → bindArgs (PySem.W.fnOf (Str.ofString "_law_is_text") (Str.ofString "_law_is_text") (defArgs (topS 28)) (defBody (topS 28)) (defScope (topS 28)) .none kV doc pm an cdv ct) ⟨us, []⟩ = pure (([Str.ofString "x", Str.ofString "due"] : List Str).zip us) := fun _ _ _ _ _ _ us hl => match us, hl with | [_, _], _ => rfl
theorem bd_l_is_number : ∀ (kV doc pm : Value) (an : Option Addr) (cdv ct : Value) (us : List Value), us.length = 0 + 1 + 1 → bindArgs (PySem.W.fnOf (Str.ofString "_law_is_number") (Str.ofString "_law_is_number") (defArgs (topS 29)) (defBody (topS 29)) (defScope (topS 29)) .none kV doc pm an cdv ct) ⟨us, []⟩ = pure (([Str.ofString "x", Str.ofString "due"] : List Str).zip us) := fun _ _ _ _ _ _ us hl => match us, hl with | [_, _], _ => rfl
theorem bd_l_gcd : ∀ (kV doc pm : Value) (an : Option Addr) (cdv ct : Value) (us : List Value), us.length = 0 + 1 + 1 → bindArgs (PySem.W.fnOf (Str.ofString "_law_gcd") (Str.ofString "_law_gcd") (defArgs (topS 30)) (defBody (topS 30)) (defScope (topS 30)) .none kV doc pm an cdv ct) ⟨us, []⟩ = pure (([Str.ofString "a", Str.ofString "b"] : List Str).zip us) := fun _ _ _ _ _ _ us hl => match us, hl with | [_, _], _ => rfl
theorem bd_l_frac : ∀ (kV doc pm : Value) (an : Option Addr) (cdv ct : Value) (us : List Value), us.length = 0 + 1 + 1 → bindArgs (PySem.W.fnOf (Str.ofString "_law_frac") (Str.ofString "_law_frac") (defArgs (topS 31)) (defBody (topS 31)) (defScope (topS 31)) .none kV doc pm an cdv ct) ⟨us, []⟩ = pure (([Str.ofString "a", Str.ofString "b"] : List Str).zip us) := fun _ _ _ _ _ _ us hl => match us, hl with | [_, _], _ => rfl
theorem bd_l_add : ∀ (kV doc pm : Value) (an : Option Addr) (cdv ct : Value) (us : List Value), us.length = 0 + 1 + 1 → bindArgs (PySem.W.fnOf (Str.ofString "_law_add") (Str.ofString "_law_add") (defArgs (topS 32)) (defBody (topS 32)) (defScope (topS 32)) .none kV doc pm an cdv ct) ⟨us, []⟩ = pure (([Str.ofString "x", Str.ofString "y"] : List Str).zip us) := fun _ _ _ _ _ _ us hl => match us, hl with | [_, _], _ => rfl
theorem bd_l_neg : ∀ (kV doc pm : Value) (an : Option Addr) (cdv ct : Value) (us : List Value), us.length = 0 + 1 → bindArgs (PySem.W.fnOf (Str.ofString "_law_neg") (Str.ofString "_law_neg") (defArgs (topS 33)) (defBody (topS 33)) (defScope (topS 33)) .none kV doc pm an cdv ct) ⟨us, []⟩ = pure (([Str.ofString "x"] : List Str).zip us) := fun _ _ _ _ _ _ us hl => match us, hl with | [_], _ => rfl
theorem bd_l_sub : ∀ (kV doc pm : Value) (an : Option Addr) (cdv ct : Value) (us : List Value), us.length = 0 + 1 + 1 → bindArgs (PySem.W.fnOf (Str.ofString "_law_sub") (Str.ofString "_law_sub") (defArgs (topS 34)) (defBody (topS 34)) (defScope (topS 34)) .none kV doc pm an cdv ct) ⟨us, []⟩ = pure (([Str.ofString "x", Str.ofString "y"] : List Str).zip us) := fun _ _ _ _ _ _ us hl => match us, hl with | [_, _], _ => rfl
theorem bd_l_mul : ∀ (kV doc pm : Value) (an : Option Addr) (cdv ct : Value) (us : List Value), us.length = 0 + 1 + 1 → bindArgs (PySem.W.fnOf (Str.ofString "_law_mul") (Str.ofString "_law_mul") (defArgs (topS 35)) (defBody (topS 35)) (defScope (topS 35)) .none kV doc pm an cdv ct) ⟨us, []⟩ = pure (([Str.ofString "x", Str.ofString "y"] : List Str).zip us) := fun _ _ _ _ _ _ us hl => match us, hl with | [_, _], _ => rfl
theorem bd_l_less : ∀ (kV doc pm : Value) (an : Option Addr) (cdv ct : Value) (us : List Value), us.length = 0 + 1 + 1 → bindArgs (PySem.W.fnOf (Str.ofString "_law_less") (Str.ofString "_law_less") (defArgs (topS 36)) (defBody (topS 36)) (defScope (topS 36)) .none kV doc pm an cdv ct) ⟨us, []⟩ = pure (([Str.ofString "x", Str.ofString "y"] : List Str).zip us) := fun _ _ _ _ _ _ us hl => match us, hl with | [_, _], _ => rfl
theorem bd_l_least : ∀ (kV doc pm : Value) (an : Option Addr) (cdv ct : Value) (us : List Value), us.length = 0 + 1 + 1 → bindArgs (PySem.W.fnOf (Str.ofString "_law_least") (Str.ofString "_law_least") (defArgs (topS 37)) (defBody (topS 37)) (defScope (topS 37)) .none kV doc pm an cdv ct) ⟨us, []⟩ = pure (([Str.ofString "x", Str.ofString "y"] : List Str).zip us) := fun _ _ _ _ _ _ us hl => match us, hl with | [_, _], _ => rfl
theorem bd_l_most : ∀ (kV doc pm : Value) (an : Option Addr) (cdv ct : Value) (us : List Value), us.length = 0 + 1 + 1 → bindArgs (PySem.W.fnOf (Str.ofString "_law_most") (Str.ofString "_law_most") (defArgs (topS 38)) (defBody (topS 38)) (defScope (topS 38)) .none kV doc pm an cdv ct) ⟨us, []⟩ = pure (([Str.ofString "x", Str.ofString "y"] : List Str).zip us) := fun _ _ _ _ _ _ us hl => match us, hl with | [_, _], _ => rfl
theorem bd_l_same : ∀ (kV doc pm : Value) (an : Option Addr) (cdv ct : Value) (us : List Value), us.length = 0 + 1 + 1 → bindArgs (PySem.W.fnOf (Str.ofString "_law_same") (Str.ofString "_law_same") (defArgs (topS 39)) (defBody (topS 39)) (defScope (topS 39)) .none kV doc pm an cdv ct) ⟨us, []⟩ = pure (([Str.ofString "x", Str.ofString "due"] : List Str).zip us) := fun _ _ _ _ _ _ us hl => match us, hl with | [_, _], _ => rfl
theorem bd_l_small : ∀ (kV doc pm : Value) (an : Option Addr) (cdv ct : Value) (us : List Value), us.length = 0 + 1 → bindArgs (PySem.W.fnOf (Str.ofString "_law_small") (Str.ofString "_law_small") (defArgs (topS 40)) (defBody (topS 40)) (defScope (topS 40)) .none kV doc pm an cdv ct) ⟨us, []⟩ = pure (([Str.ofString "draw"] : List Str).zip us) := fun _ _ _ _ _ _ us hl => match us, hl with | [_], _ => rfl
theorem bd_l_span : ∀ (kV doc pm : Value) (an : Option Addr) (cdv ct : Value) (us : List Value), us.length = 0 + 1 + 1 → bindArgs (PySem.W.fnOf (Str.ofString "_law_span") (Str.ofString "_law_span") (defArgs (topS 41)) (defBody (topS 41)) (defScope (topS 41)) .none kV doc pm an cdv ct) ⟨us, []⟩ = pure (([Str.ofString "draw", Str.ofString "more"] : List Str).zip us) := fun _ _ _ _ _ _ us hl => match us, hl with | [_, _], _ => rfl
theorem bd_l_values : ∀ (kV doc pm : Value) (an : Option Addr) (cdv ct : Value) (us : List Value), us.length = 0 → bindArgs (PySem.W.fnOf (Str.ofString "_law_values") (Str.ofString "_law_values") (defArgs (topS 42)) (defBody (topS 42)) (defScope (topS 42)) .none kV doc pm an cdv ct) ⟨us, []⟩ = pure (([] : List Str).zip us) := fun _ _ _ _ _ _ us hl => match us, hl with | [], _ => rfl
theorem bd_l_middle : ∀ (kV doc pm : Value) (an : Option Addr) (cdv ct : Value) (us : List Value), us.length = 0 + 1 + 1 → bindArgs (PySem.W.fnOf (Str.ofString "_law_middle") (Str.ofString "_law_middle") (defArgs (topS 43)) (defBody (topS 43)) (defScope (topS 43)) .none kV doc pm an cdv ct) ⟨us, []⟩ = pure (([Str.ofString "low", Str.ofString "high"] : List Str).zip us) := fun _ _ _ _ _ _ us hl => match us, hl with | [_, _], _ => rfl
theorem bd_l_box : ∀ (kV doc pm : Value) (an : Option Addr) (cdv ct : Value) (us : List Value), us.length = 0 + 1 + 1 + 1 → bindArgs (PySem.W.fnOf (Str.ofString "_law_box") (Str.ofString "_law_box") (defArgs (topS 44)) (defBody (topS 44)) (defScope (topS 44)) .none kV doc pm an cdv ct) ⟨us, []⟩ = pure (([Str.ofString "n", Str.ofString "draws", Str.ofString "at"] : List Str).zip us) := fun _ _ _ _ _ _ us hl => match us, hl with | [_, _, _], _ => rfl
theorem bd_l_mid : ∀ (kV doc pm : Value) (an : Option Addr) (cdv ct : Value) (us : List Value), us.length = 0 + 1 → bindArgs (PySem.W.fnOf (Str.ofString "_law_mid") (Str.ofString "_law_mid") (defArgs (topS 45)) (defBody (topS 45)) (defScope (topS 45)) .none kV doc pm an cdv ct) ⟨us, []⟩ = pure (([Str.ofString "box"] : List Str).zip us) := fun _ _ _ _ _ _ us hl => match us, hl with | [_], _ => rfl
theorem bd_l_longest : ∀ (kV doc pm : Value) (an : Option Addr) (cdv ct : Value) (us : List Value), us.length = 0 + 1 → bindArgs (PySem.W.fnOf (Str.ofString "_law_longest") (Str.ofString "_law_longest") (defArgs (topS 46)) (defBody (topS 46)) (defScope (topS 46)) .none kV doc pm an cdv ct) ⟨us, []⟩ = pure (([Str.ofString "box"] : List Str).zip us) := fun _ _ _ _ _ _ us hl => match us, hl with | [_], _ => rfl
theorem bd_l_halves : ∀ (kV doc pm : Value) (an : Option Addr) (cdv ct : Value) (us : List Value), us.length = 0 + 1 + 1 → bindArgs (PySem.W.fnOf (Str.ofString "_law_halves") (Str.ofString "_law_halves") (defArgs (topS 47)) (defBody (topS 47)) (defScope (topS 47)) .none kV doc pm an cdv ct) ⟨us, []⟩ = pure (([Str.ofString "box", Str.ofString "k"] : List Str).zip us) := fun _ _ _ _ _ _ us hl => match us, hl with | [_, _], _ => rfl
theorem bd_law_k43 : ∀ (kV doc pm : Value) (an : Option Addr) (cdv ct : Value) (us : List Value), us.length = 0 + 1 → bindArgs (PySem.W.fnOf (Str.ofString "law") (Str.ofString "law") (defArgs (topS 48)) (defBody (topS 48)) (defScope (topS 48)) .none kV doc pm an cdv ct) ⟨us, []⟩ = pure (([Str.ofString "script"] : List Str).zip us) := fun _ _ _ _ _ _ us hl => match us, hl with | [_], _ => rfl
theorem facts_k43 {K : PySem.W.Frag} {h : Heap} {mg : Str → Option Value} (X : K.In h) (G : h.Ns mainGlobals mg)
    {f0 : Addr} {od0 an0 : Option Addr} {sl0 : Array (Option Value)} {oc0 kV0 dc0 pm0 cd0 ct0 : Value}
    (a0 : PySem.W.nsIn K mainGlobals (Str.ofString "number") = some (some (.ref f0))) (l0 : K.lookup f0 = some ⟨oc0, od0, .func (PySem.W.fnOf (Str.ofString "number") (Str.ofString "number") (defArgs (topS 5)) (defBody (topS 5)) (defScope (topS 5)) .none kV0 dc0 pm0 an0 cd0 ct0), sl0⟩) (c0 : PySem.W.codeIn K cd0 (Str.ofString "number") = true) (k0 : PySem.W.keepIn K (.ref f0) = true)
    {f1 : Addr} {od1 an1 : Option Addr} {sl1 : Array (Option Value)} {oc1 kV1 dc1 pm1 cd1 ct1 : Value}
    (a1 : PySem.W.nsIn K mainGlobals (Str.ofString "is_integer") = some (some (.ref f1))) (l1 : K.lookup f1 = some ⟨oc1, od1, .func (PySem.W.fnOf (Str.ofString "is_integer") (Str.ofString "is_integer") (defArgs (topS 6)) (defBody (topS 6)) (defScope (topS 6)) .none kV1 dc1 pm1 an1 cd1 ct1), sl1⟩) (c1 : PySem.W.codeIn K cd1 (Str.ofString "is_integer") = true) (k1 : PySem.W.keepIn K (.ref f1) = true)
    {f2 : Addr} {od2 an2 : Option Addr} {sl2 : Array (Option Value)} {oc2 kV2 dc2 pm2 cd2 ct2 : Value}
    (a2 : PySem.W.nsIn K mainGlobals (Str.ofString "is_number") = some (some (.ref f2))) (l2 : K.lookup f2 = some ⟨oc2, od2, .func (PySem.W.fnOf (Str.ofString "is_number") (Str.ofString "is_number") (defArgs (topS 7)) (defBody (topS 7)) (defScope (topS 7)) .none kV2 dc2 pm2 an2 cd2 ct2), sl2⟩) (c2 : PySem.W.codeIn K cd2 (Str.ofString "is_number") = true) (k2 : PySem.W.keepIn K (.ref f2) = true)
    {f3 : Addr} {od3 an3 : Option Addr} {sl3 : Array (Option Value)} {oc3 kV3 dc3 pm3 cd3 ct3 : Value}
    (a3 : PySem.W.nsIn K mainGlobals (Str.ofString "plus") = some (some (.ref f3))) (l3 : K.lookup f3 = some ⟨oc3, od3, .func (PySem.W.fnOf (Str.ofString "plus") (Str.ofString "plus") (defArgs (topS 8)) (defBody (topS 8)) (defScope (topS 8)) .none kV3 dc3 pm3 an3 cd3 ct3), sl3⟩) (c3 : PySem.W.codeIn K cd3 (Str.ofString "plus") = true) (k3 : PySem.W.keepIn K (.ref f3) = true)
    {f4 : Addr} {od4 an4 : Option Addr} {sl4 : Array (Option Value)} {oc4 kV4 dc4 pm4 cd4 ct4 : Value}
    (a4 : PySem.W.nsIn K mainGlobals (Str.ofString "minus") = some (some (.ref f4))) (l4 : K.lookup f4 = some ⟨oc4, od4, .func (PySem.W.fnOf (Str.ofString "minus") (Str.ofString "minus") (defArgs (topS 9)) (defBody (topS 9)) (defScope (topS 9)) .none kV4 dc4 pm4 an4 cd4 ct4), sl4⟩) (c4 : PySem.W.codeIn K cd4 (Str.ofString "minus") = true) (k4 : PySem.W.keepIn K (.ref f4) = true)
    {f5 : Addr} {od5 an5 : Option Addr} {sl5 : Array (Option Value)} {oc5 kV5 dc5 pm5 cd5 ct5 : Value}
    (a5 : PySem.W.nsIn K mainGlobals (Str.ofString "compare") = some (some (.ref f5))) (l5 : K.lookup f5 = some ⟨oc5, od5, .func (PySem.W.fnOf (Str.ofString "compare") (Str.ofString "compare") (defArgs (topS 10)) (defBody (topS 10)) (defScope (topS 10)) .none kV5 dc5 pm5 an5 cd5 ct5), sl5⟩) (c5 : PySem.W.codeIn K cd5 (Str.ofString "compare") = true) (k5 : PySem.W.keepIn K (.ref f5) = true)
    {f6 : Addr} {od6 an6 : Option Addr} {sl6 : Array (Option Value)} {oc6 kV6 dc6 pm6 cd6 ct6 : Value}
    (a6 : PySem.W.nsIn K mainGlobals (Str.ofString "half") = some (some (.ref f6))) (l6 : K.lookup f6 = some ⟨oc6, od6, .func (PySem.W.fnOf (Str.ofString "half") (Str.ofString "half") (defArgs (topS 11)) (defBody (topS 11)) (defScope (topS 11)) .none kV6 dc6 pm6 an6 cd6 ct6), sl6⟩) (c6 : PySem.W.codeIn K cd6 (Str.ofString "half") = true) (k6 : PySem.W.keepIn K (.ref f6) = true)
    {f7 : Addr} {od7 an7 : Option Addr} {sl7 : Array (Option Value)} {oc7 kV7 dc7 pm7 cd7 ct7 : Value}
    (a7 : PySem.W.nsIn K mainGlobals (Str.ofString "is_interval") = some (some (.ref f7))) (l7 : K.lookup f7 = some ⟨oc7, od7, .func (PySem.W.fnOf (Str.ofString "is_interval") (Str.ofString "is_interval") (defArgs (topS 13)) (defBody (topS 13)) (defScope (topS 13)) .none kV7 dc7 pm7 an7 cd7 ct7), sl7⟩) (c7 : PySem.W.codeIn K cd7 (Str.ofString "is_interval") = true) (k7 : PySem.W.keepIn K (.ref f7) = true)
    {f8 : Addr} {od8 an8 : Option Addr} {sl8 : Array (Option Value)} {oc8 kV8 dc8 pm8 cd8 ct8 : Value}
    (a8 : PySem.W.nsIn K mainGlobals (Str.ofString "middle_of") = some (some (.ref f8))) (l8 : K.lookup f8 = some ⟨oc8, od8, .func (PySem.W.fnOf (Str.ofString "middle_of") (Str.ofString "middle_of") (defArgs (topS 14)) (defBody (topS 14)) (defScope (topS 14)) .none kV8 dc8 pm8 an8 cd8 ct8), sl8⟩) (c8 : PySem.W.codeIn K cd8 (Str.ofString "middle_of") = true) (k8 : PySem.W.keepIn K (.ref f8) = true)
    {f9 : Addr} {od9 an9 : Option Addr} {sl9 : Array (Option Value)} {oc9 kV9 dc9 pm9 cd9 ct9 : Value}
    (a9 : PySem.W.nsIn K mainGlobals (Str.ofString "width_of") = some (some (.ref f9))) (l9 : K.lookup f9 = some ⟨oc9, od9, .func (PySem.W.fnOf (Str.ofString "width_of") (Str.ofString "width_of") (defArgs (topS 15)) (defBody (topS 15)) (defScope (topS 15)) .none kV9 dc9 pm9 an9 cd9 ct9), sl9⟩) (c9 : PySem.W.codeIn K cd9 (Str.ofString "width_of") = true) (k9 : PySem.W.keepIn K (.ref f9) = true)
    {f10 : Addr} {od10 an10 : Option Addr} {sl10 : Array (Option Value)} {oc10 kV10 dc10 pm10 cd10 ct10 : Value}
    (a10 : PySem.W.nsIn K mainGlobals (Str.ofString "is_box") = some (some (.ref f10))) (l10 : K.lookup f10 = some ⟨oc10, od10, .func (PySem.W.fnOf (Str.ofString "is_box") (Str.ofString "is_box") (defArgs (topS 17)) (defBody (topS 17)) (defScope (topS 17)) .none kV10 dc10 pm10 an10 cd10 ct10), sl10⟩) (c10 : PySem.W.codeIn K cd10 (Str.ofString "is_box") = true) (k10 : PySem.W.keepIn K (.ref f10) = true)
    {f11 : Addr} {od11 an11 : Option Addr} {sl11 : Array (Option Value)} {oc11 kV11 dc11 pm11 cd11 ct11 : Value}
    (a11 : PySem.W.nsIn K mainGlobals (Str.ofString "box_middle") = some (some (.ref f11))) (l11 : K.lookup f11 = some ⟨oc11, od11, .func (PySem.W.fnOf (Str.ofString "box_middle") (Str.ofString "box_middle") (defArgs (topS 18)) (defBody (topS 18)) (defScope (topS 18)) .none kV11 dc11 pm11 an11 cd11 ct11), sl11⟩) (c11 : PySem.W.codeIn K cd11 (Str.ofString "box_middle") = true) (k11 : PySem.W.keepIn K (.ref f11) = true)
    {f12 : Addr} {od12 an12 : Option Addr} {sl12 : Array (Option Value)} {oc12 kV12 dc12 pm12 cd12 ct12 : Value}
    (a12 : PySem.W.nsIn K mainGlobals (Str.ofString "box_widths") = some (some (.ref f12))) (l12 : K.lookup f12 = some ⟨oc12, od12, .func (PySem.W.fnOf (Str.ofString "box_widths") (Str.ofString "box_widths") (defArgs (topS 19)) (defBody (topS 19)) (defScope (topS 19)) .none kV12 dc12 pm12 an12 cd12 ct12), sl12⟩) (c12 : PySem.W.codeIn K cd12 (Str.ofString "box_widths") = true) (k12 : PySem.W.keepIn K (.ref f12) = true)
    {f13 : Addr} {od13 an13 : Option Addr} {sl13 : Array (Option Value)} {oc13 kV13 dc13 pm13 cd13 ct13 : Value}
    (a13 : PySem.W.nsIn K mainGlobals (Str.ofString "longest") = some (some (.ref f13))) (l13 : K.lookup f13 = some ⟨oc13, od13, .func (PySem.W.fnOf (Str.ofString "longest") (Str.ofString "longest") (defArgs (topS 20)) (defBody (topS 20)) (defScope (topS 20)) .none kV13 dc13 pm13 an13 cd13 ct13), sl13⟩) (c13 : PySem.W.codeIn K cd13 (Str.ofString "longest") = true) (k13 : PySem.W.keepIn K (.ref f13) = true)
    {f14 : Addr} {od14 an14 : Option Addr} {sl14 : Array (Option Value)} {oc14 kV14 dc14 pm14 cd14 ct14 : Value}
    (a14 : PySem.W.nsIn K mainGlobals (Str.ofString "with_interval") = some (some (.ref f14))) (l14 : K.lookup f14 = some ⟨oc14, od14, .func (PySem.W.fnOf (Str.ofString "with_interval") (Str.ofString "with_interval") (defArgs (topS 21)) (defBody (topS 21)) (defScope (topS 21)) .none kV14 dc14 pm14 an14 cd14 ct14), sl14⟩) (c14 : PySem.W.codeIn K cd14 (Str.ofString "with_interval") = true) (k14 : PySem.W.keepIn K (.ref f14) = true)
    {f15 : Addr} {od15 an15 : Option Addr} {sl15 : Array (Option Value)} {oc15 kV15 dc15 pm15 cd15 ct15 : Value}
    (a15 : PySem.W.nsIn K mainGlobals (Str.ofString "halves") = some (some (.ref f15))) (l15 : K.lookup f15 = some ⟨oc15, od15, .func (PySem.W.fnOf (Str.ofString "halves") (Str.ofString "halves") (defArgs (topS 22)) (defBody (topS 22)) (defScope (topS 22)) .none kV15 dc15 pm15 an15 cd15 ct15), sl15⟩) (c15 : PySem.W.codeIn K cd15 (Str.ofString "halves") = true) (k15 : PySem.W.keepIn K (.ref f15) = true)
    {f16 : Addr} {od16 an16 : Option Addr} {sl16 : Array (Option Value)} {oc16 kV16 dc16 pm16 cd16 ct16 : Value}
    (a16 : PySem.W.nsIn K mainGlobals (Str.ofString "corners") = some (some (.ref f16))) (l16 : K.lookup f16 = some ⟨oc16, od16, .func (PySem.W.fnOf (Str.ofString "corners") (Str.ofString "corners") (defArgs (topS 23)) (defBody (topS 23)) (defScope (topS 23)) .none kV16 dc16 pm16 an16 cd16 ct16), sl16⟩) (c16 : PySem.W.codeIn K cd16 (Str.ofString "corners") = true) (k16 : PySem.W.keepIn K (.ref f16) = true)
    {f17 : Addr} {od17 an17 : Option Addr} {sl17 : Array (Option Value)} {oc17 kV17 dc17 pm17 cd17 ct17 : Value}
    (a17 : PySem.W.nsIn K mainGlobals (Str.ofString "_law_cell") = some (some (.ref f17))) (l17 : K.lookup f17 = some ⟨oc17, od17, .func (PySem.W.fnOf (Str.ofString "_law_cell") (Str.ofString "_law_cell") (defArgs (topS 25)) (defBody (topS 25)) (defScope (topS 25)) .none kV17 dc17 pm17 an17 cd17 ct17), sl17⟩) (c17 : PySem.W.codeIn K cd17 (Str.ofString "_law_cell") = true) (k17 : PySem.W.keepIn K (.ref f17) = true)
    {f18 : Addr} {od18 an18 : Option Addr} {sl18 : Array (Option Value)} {oc18 kV18 dc18 pm18 cd18 ct18 : Value}
    (a18 : PySem.W.nsIn K mainGlobals (Str.ofString "_law_draws") = some (some (.ref f18))) (l18 : K.lookup f18 = some ⟨oc18, od18, .func (PySem.W.fnOf (Str.ofString "_law_draws") (Str.ofString "_law_draws") (defArgs (topS 26)) (defBody (topS 26)) (defScope (topS 26)) .none kV18 dc18 pm18 an18 cd18 ct18), sl18⟩) (c18 : PySem.W.codeIn K cd18 (Str.ofString "_law_draws") = true) (k18 : PySem.W.keepIn K (.ref f18) = true)
    {f19 : Addr} {od19 an19 : Option Addr} {sl19 : Array (Option Value)} {oc19 kV19 dc19 pm19 cd19 ct19 : Value}
    (a19 : PySem.W.nsIn K mainGlobals (Str.ofString "_law_is_int") = some (some (.ref f19))) (l19 : K.lookup f19 = some ⟨oc19, od19, .func (PySem.W.fnOf (Str.ofString "_law_is_int") (Str.ofString "_law_is_int") (defArgs (topS 27)) (defBody (topS 27)) (defScope (topS 27)) .none kV19 dc19 pm19 an19 cd19 ct19), sl19⟩) (c19 : PySem.W.codeIn K cd19 (Str.ofString "_law_is_int") = true) (k19 : PySem.W.keepIn K (.ref f19) = true)
    {f20 : Addr} {od20 an20 : Option Addr} {sl20 : Array (Option Value)} {oc20 kV20 dc20 pm20 cd20 ct20 : Value}
    (a20 : PySem.W.nsIn K mainGlobals (Str.ofString "_law_is_text") = some (some (.ref f20))) (l20 : K.lookup f20 = some ⟨oc20, od20, .func (PySem.W.fnOf (Str.ofString "_law_is_text") (Str.ofString "_law_is_text") (defArgs (topS 28)) (defBody (topS 28)) (defScope (topS 28)) .none kV20 dc20 pm20 an20 cd20 ct20), sl20⟩) (c20 : PySem.W.codeIn K cd20 (Str.ofString "_law_is_text") = true) (k20 : PySem.W.keepIn K (.ref f20) = true)
    {f21 : Addr} {od21 an21 : Option Addr} {sl21 : Array (Option Value)} {oc21 kV21 dc21 pm21 cd21 ct21 : Value}
    (a21 : PySem.W.nsIn K mainGlobals (Str.ofString "_law_is_number") = some (some (.ref f21))) (l21 : K.lookup f21 = some ⟨oc21, od21, .func (PySem.W.fnOf (Str.ofString "_law_is_number") (Str.ofString "_law_is_number") (defArgs (topS 29)) (defBody (topS 29)) (defScope (topS 29)) .none kV21 dc21 pm21 an21 cd21 ct21), sl21⟩) (c21 : PySem.W.codeIn K cd21 (Str.ofString "_law_is_number") = true) (k21 : PySem.W.keepIn K (.ref f21) = true)
    {f22 : Addr} {od22 an22 : Option Addr} {sl22 : Array (Option Value)} {oc22 kV22 dc22 pm22 cd22 ct22 : Value}
    (a22 : PySem.W.nsIn K mainGlobals (Str.ofString "_law_gcd") = some (some (.ref f22))) (l22 : K.lookup f22 = some ⟨oc22, od22, .func (PySem.W.fnOf (Str.ofString "_law_gcd") (Str.ofString "_law_gcd") (defArgs (topS 30)) (defBody (topS 30)) (defScope (topS 30)) .none kV22 dc22 pm22 an22 cd22 ct22), sl22⟩) (c22 : PySem.W.codeIn K cd22 (Str.ofString "_law_gcd") = true) (k22 : PySem.W.keepIn K (.ref f22) = true)
    {f23 : Addr} {od23 an23 : Option Addr} {sl23 : Array (Option Value)} {oc23 kV23 dc23 pm23 cd23 ct23 : Value}
    (a23 : PySem.W.nsIn K mainGlobals (Str.ofString "_law_frac") = some (some (.ref f23))) (l23 : K.lookup f23 = some ⟨oc23, od23, .func (PySem.W.fnOf (Str.ofString "_law_frac") (Str.ofString "_law_frac") (defArgs (topS 31)) (defBody (topS 31)) (defScope (topS 31)) .none kV23 dc23 pm23 an23 cd23 ct23), sl23⟩) (c23 : PySem.W.codeIn K cd23 (Str.ofString "_law_frac") = true) (k23 : PySem.W.keepIn K (.ref f23) = true)
    {f24 : Addr} {od24 an24 : Option Addr} {sl24 : Array (Option Value)} {oc24 kV24 dc24 pm24 cd24 ct24 : Value}
    (a24 : PySem.W.nsIn K mainGlobals (Str.ofString "_law_add") = some (some (.ref f24))) (l24 : K.lookup f24 = some ⟨oc24, od24, .func (PySem.W.fnOf (Str.ofString "_law_add") (Str.ofString "_law_add") (defArgs (topS 32)) (defBody (topS 32)) (defScope (topS 32)) .none kV24 dc24 pm24 an24 cd24 ct24), sl24⟩) (c24 : PySem.W.codeIn K cd24 (Str.ofString "_law_add") = true) (k24 : PySem.W.keepIn K (.ref f24) = true)
    {f25 : Addr} {od25 an25 : Option Addr} {sl25 : Array (Option Value)} {oc25 kV25 dc25 pm25 cd25 ct25 : Value}
    (a25 : PySem.W.nsIn K mainGlobals (Str.ofString "_law_neg") = some (some (.ref f25))) (l25 : K.lookup f25 = some ⟨oc25, od25, .func (PySem.W.fnOf (Str.ofString "_law_neg") (Str.ofString "_law_neg") (defArgs (topS 33)) (defBody (topS 33)) (defScope (topS 33)) .none kV25 dc25 pm25 an25 cd25 ct25), sl25⟩) (c25 : PySem.W.codeIn K cd25 (Str.ofString "_law_neg") = true) (k25 : PySem.W.keepIn K (.ref f25) = true)
    {f26 : Addr} {od26 an26 : Option Addr} {sl26 : Array (Option Value)} {oc26 kV26 dc26 pm26 cd26 ct26 : Value}
    (a26 : PySem.W.nsIn K mainGlobals (Str.ofString "_law_sub") = some (some (.ref f26))) (l26 : K.lookup f26 = some ⟨oc26, od26, .func (PySem.W.fnOf (Str.ofString "_law_sub") (Str.ofString "_law_sub") (defArgs (topS 34)) (defBody (topS 34)) (defScope (topS 34)) .none kV26 dc26 pm26 an26 cd26 ct26), sl26⟩) (c26 : PySem.W.codeIn K cd26 (Str.ofString "_law_sub") = true) (k26 : PySem.W.keepIn K (.ref f26) = true)
    {f27 : Addr} {od27 an27 : Option Addr} {sl27 : Array (Option Value)} {oc27 kV27 dc27 pm27 cd27 ct27 : Value}
    (a27 : PySem.W.nsIn K mainGlobals (Str.ofString "_law_mul") = some (some (.ref f27))) (l27 : K.lookup f27 = some ⟨oc27, od27, .func (PySem.W.fnOf (Str.ofString "_law_mul") (Str.ofString "_law_mul") (defArgs (topS 35)) (defBody (topS 35)) (defScope (topS 35)) .none kV27 dc27 pm27 an27 cd27 ct27), sl27⟩) (c27 : PySem.W.codeIn K cd27 (Str.ofString "_law_mul") = true) (k27 : PySem.W.keepIn K (.ref f27) = true)
    {f28 : Addr} {od28 an28 : Option Addr} {sl28 : Array (Option Value)} {oc28 kV28 dc28 pm28 cd28 ct28 : Value}
    (a28 : PySem.W.nsIn K mainGlobals (Str.ofString "_law_less") = some (some (.ref f28))) (l28 : K.lookup f28 = some ⟨oc28, od28, .func (PySem.W.fnOf (Str.ofString "_law_less") (Str.ofString "_law_less") (defArgs (topS 36)) (defBody (topS 36)) (defScope (topS 36)) .none kV28 dc28 pm28 an28 cd28 ct28), sl28⟩) (c28 : PySem.W.codeIn K cd28 (Str.ofString "_law_less") = true) (k28 : PySem.W.keepIn K (.ref f28) = true)
    {f29 : Addr} {od29 an29 : Option Addr} {sl29 : Array (Option Value)} {oc29 kV29 dc29 pm29 cd29 ct29 : Value}
    (a29 : PySem.W.nsIn K mainGlobals (Str.ofString "_law_least") = some (some (.ref f29))) (l29 : K.lookup f29 = some ⟨oc29, od29, .func (PySem.W.fnOf (Str.ofString "_law_least") (Str.ofString "_law_least") (defArgs (topS 37)) (defBody (topS 37)) (defScope (topS 37)) .none kV29 dc29 pm29 an29 cd29 ct29), sl29⟩) (c29 : PySem.W.codeIn K cd29 (Str.ofString "_law_least") = true) (k29 : PySem.W.keepIn K (.ref f29) = true)
    {f30 : Addr} {od30 an30 : Option Addr} {sl30 : Array (Option Value)} {oc30 kV30 dc30 pm30 cd30 ct30 : Value}
    (a30 : PySem.W.nsIn K mainGlobals (Str.ofString "_law_most") = some (some (.ref f30))) (l30 : K.lookup f30 = some ⟨oc30, od30, .func (PySem.W.fnOf (Str.ofString "_law_most") (Str.ofString "_law_most") (defArgs (topS 38)) (defBody (topS 38)) (defScope (topS 38)) .none kV30 dc30 pm30 an30 cd30 ct30), sl30⟩) (c30 : PySem.W.codeIn K cd30 (Str.ofString "_law_most") = true) (k30 : PySem.W.keepIn K (.ref f30) = true)
    {f31 : Addr} {od31 an31 : Option Addr} {sl31 : Array (Option Value)} {oc31 kV31 dc31 pm31 cd31 ct31 : Value}
    (a31 : PySem.W.nsIn K mainGlobals (Str.ofString "_law_same") = some (some (.ref f31))) (l31 : K.lookup f31 = some ⟨oc31, od31, .func (PySem.W.fnOf (Str.ofString "_law_same") (Str.ofString "_law_same") (defArgs (topS 39)) (defBody (topS 39)) (defScope (topS 39)) .none kV31 dc31 pm31 an31 cd31 ct31), sl31⟩) (c31 : PySem.W.codeIn K cd31 (Str.ofString "_law_same") = true) (k31 : PySem.W.keepIn K (.ref f31) = true)
    {f32 : Addr} {od32 an32 : Option Addr} {sl32 : Array (Option Value)} {oc32 kV32 dc32 pm32 cd32 ct32 : Value}
    (a32 : PySem.W.nsIn K mainGlobals (Str.ofString "_law_small") = some (some (.ref f32))) (l32 : K.lookup f32 = some ⟨oc32, od32, .func (PySem.W.fnOf (Str.ofString "_law_small") (Str.ofString "_law_small") (defArgs (topS 40)) (defBody (topS 40)) (defScope (topS 40)) .none kV32 dc32 pm32 an32 cd32 ct32), sl32⟩) (c32 : PySem.W.codeIn K cd32 (Str.ofString "_law_small") = true) (k32 : PySem.W.keepIn K (.ref f32) = true)
    {f33 : Addr} {od33 an33 : Option Addr} {sl33 : Array (Option Value)} {oc33 kV33 dc33 pm33 cd33 ct33 : Value}
    (a33 : PySem.W.nsIn K mainGlobals (Str.ofString "_law_span") = some (some (.ref f33))) (l33 : K.lookup f33 = some ⟨oc33, od33, .func (PySem.W.fnOf (Str.ofString "_law_span") (Str.ofString "_law_span") (defArgs (topS 41)) (defBody (topS 41)) (defScope (topS 41)) .none kV33 dc33 pm33 an33 cd33 ct33), sl33⟩) (c33 : PySem.W.codeIn K cd33 (Str.ofString "_law_span") = true) (k33 : PySem.W.keepIn K (.ref f33) = true)
    {f34 : Addr} {od34 an34 : Option Addr} {sl34 : Array (Option Value)} {oc34 kV34 dc34 pm34 cd34 ct34 : Value}
    (a34 : PySem.W.nsIn K mainGlobals (Str.ofString "_law_values") = some (some (.ref f34))) (l34 : K.lookup f34 = some ⟨oc34, od34, .func (PySem.W.fnOf (Str.ofString "_law_values") (Str.ofString "_law_values") (defArgs (topS 42)) (defBody (topS 42)) (defScope (topS 42)) .none kV34 dc34 pm34 an34 cd34 ct34), sl34⟩) (c34 : PySem.W.codeIn K cd34 (Str.ofString "_law_values") = true) (k34 : PySem.W.keepIn K (.ref f34) = true)
    {f35 : Addr} {od35 an35 : Option Addr} {sl35 : Array (Option Value)} {oc35 kV35 dc35 pm35 cd35 ct35 : Value}
    (a35 : PySem.W.nsIn K mainGlobals (Str.ofString "_law_middle") = some (some (.ref f35))) (l35 : K.lookup f35 = some ⟨oc35, od35, .func (PySem.W.fnOf (Str.ofString "_law_middle") (Str.ofString "_law_middle") (defArgs (topS 43)) (defBody (topS 43)) (defScope (topS 43)) .none kV35 dc35 pm35 an35 cd35 ct35), sl35⟩) (c35 : PySem.W.codeIn K cd35 (Str.ofString "_law_middle") = true) (k35 : PySem.W.keepIn K (.ref f35) = true)
    {f36 : Addr} {od36 an36 : Option Addr} {sl36 : Array (Option Value)} {oc36 kV36 dc36 pm36 cd36 ct36 : Value}
    (a36 : PySem.W.nsIn K mainGlobals (Str.ofString "_law_box") = some (some (.ref f36))) (l36 : K.lookup f36 = some ⟨oc36, od36, .func (PySem.W.fnOf (Str.ofString "_law_box") (Str.ofString "_law_box") (defArgs (topS 44)) (defBody (topS 44)) (defScope (topS 44)) .none kV36 dc36 pm36 an36 cd36 ct36), sl36⟩) (c36 : PySem.W.codeIn K cd36 (Str.ofString "_law_box") = true) (k36 : PySem.W.keepIn K (.ref f36) = true)
    {f37 : Addr} {od37 an37 : Option Addr} {sl37 : Array (Option Value)} {oc37 kV37 dc37 pm37 cd37 ct37 : Value}
    (a37 : PySem.W.nsIn K mainGlobals (Str.ofString "_law_mid") = some (some (.ref f37))) (l37 : K.lookup f37 = some ⟨oc37, od37, .func (PySem.W.fnOf (Str.ofString "_law_mid") (Str.ofString "_law_mid") (defArgs (topS 45)) (defBody (topS 45)) (defScope (topS 45)) .none kV37 dc37 pm37 an37 cd37 ct37), sl37⟩) (c37 : PySem.W.codeIn K cd37 (Str.ofString "_law_mid") = true) (k37 : PySem.W.keepIn K (.ref f37) = true)
    {f38 : Addr} {od38 an38 : Option Addr} {sl38 : Array (Option Value)} {oc38 kV38 dc38 pm38 cd38 ct38 : Value}
    (a38 : PySem.W.nsIn K mainGlobals (Str.ofString "_law_longest") = some (some (.ref f38))) (l38 : K.lookup f38 = some ⟨oc38, od38, .func (PySem.W.fnOf (Str.ofString "_law_longest") (Str.ofString "_law_longest") (defArgs (topS 46)) (defBody (topS 46)) (defScope (topS 46)) .none kV38 dc38 pm38 an38 cd38 ct38), sl38⟩) (c38 : PySem.W.codeIn K cd38 (Str.ofString "_law_longest") = true) (k38 : PySem.W.keepIn K (.ref f38) = true)
    {f39 : Addr} {od39 an39 : Option Addr} {sl39 : Array (Option Value)} {oc39 kV39 dc39 pm39 cd39 ct39 : Value}
    (a39 : PySem.W.nsIn K mainGlobals (Str.ofString "_law_halves") = some (some (.ref f39))) (l39 : K.lookup f39 = some ⟨oc39, od39, .func (PySem.W.fnOf (Str.ofString "_law_halves") (Str.ofString "_law_halves") (defArgs (topS 47)) (defBody (topS 47)) (defScope (topS 47)) .none kV39 dc39 pm39 an39 cd39 ct39), sl39⟩) (c39 : PySem.W.codeIn K cd39 (Str.ofString "_law_halves") = true) (k39 : PySem.W.keepIn K (.ref f39) = true)
    {f40 : Addr} {od40 an40 : Option Addr} {sl40 : Array (Option Value)} {oc40 kV40 dc40 pm40 cd40 ct40 : Value}
    (a40 : PySem.W.nsIn K mainGlobals (Str.ofString "law") = some (some (.ref f40))) (l40 : K.lookup f40 = some ⟨oc40, od40, .func (PySem.W.fnOf (Str.ofString "law") (Str.ofString "law") (defArgs (topS 48)) (defBody (topS 48)) (defScope (topS 48)) .none kV40 dc40 pm40 an40 cd40 ct40), sl40⟩) (c40 : PySem.W.codeIn K cd40 (Str.ofString "law") = true) (k40 : PySem.W.keepIn K (.ref f40) = true)
    (z0 : PySem.W.nsIn K mainGlobals (Str.ofString "abs") = some none)
    (z1 : PySem.W.nsIn K mainGlobals (Str.ofString "all") = some none)
    (z2 : PySem.W.nsIn K mainGlobals (Str.ofString "bool") = some none)
    (z3 : PySem.W.nsIn K mainGlobals (Str.ofString "int") = some none)
    (z4 : PySem.W.nsIn K mainGlobals (Str.ofString "isinstance") = some none)
    (z5 : PySem.W.nsIn K mainGlobals (Str.ofString "len") = some none)
    (z6 : PySem.W.nsIn K mainGlobals (Str.ofString "list") = some none)
    (z7 : PySem.W.nsIn K mainGlobals (Str.ofString "range") = some none)
    (z8 : PySem.W.nsIn K mainGlobals (Str.ofString "str") = some none)
    (z9 : PySem.W.nsIn K mainGlobals (Str.ofString "tuple") = some none)
    (y0 : PySem.W.nsIn K mainGlobals (Str.ofString "gcd") = some (some (.builtin "math.gcd"))) :
    Facts L_k43 T_k43 K mg := by
  have hd : ∀ p ∈ L_k43.fn, Def1 L_k43 T_k43 K mg p.1 p.2 := by
    unfold L_k43
    refine List.forall_mem_cons.mpr ⟨def1_mk X G (f := 1) (x := Str.ofString "number") rfl sc_number ck_number (by decide +kernel) (by decide +kernel) bd_number a0 l0 c0 k0, ?_⟩
    refine List.forall_mem_cons.mpr ⟨def1_mk X G (f := 80) (x := Str.ofString "is_integer") rfl sc_is_integer ck_is_integer (by decide +kernel) (by decide +kernel) bd_is_integer a1 l1 c1 k1, ?_⟩
    refine List.forall_mem_cons.mpr ⟨def1_mk X G (f := 81) (x := Str.ofString "is_number") rfl sc_is_number ck_is_number (by decide +kernel) (by decide +kernel) bd_is_number a2 l2 c2 k2, ?_⟩
    refine List.forall_mem_cons.mpr ⟨def1_mk X G (f := 2) (x := Str.ofString "plus") rfl sc_plus ck_plus (by decide +kernel) (by decide +kernel) bd_plus a3 l3 c3 k3, ?_⟩
    refine List.forall_mem_cons.mpr ⟨def1_mk X G (f := 3) (x := Str.ofString "minus") rfl sc_minus ck_minus (by decide +kernel) (by decide +kernel) bd_minus a4 l4 c4 k4, ?_⟩
    refine List.forall_mem_cons.mpr ⟨def1_mk X G (f := 7) (x := Str.ofString "compare") rfl sc_compare ck_compare (by decide +kernel) (by decide +kernel) bd_compare a5 l5 c5 k5, ?_⟩
    refine List.forall_mem_cons.mpr ⟨def1_mk X G (f := 10) (x := Str.ofString "half") rfl sc_half ck_half (by decide +kernel) (by decide +kernel) bd_half a6 l6 c6 k6, ?_⟩
    refine List.forall_mem_cons.mpr ⟨def1_mk X G (f := 82) (x := Str.ofString "is_interval") rfl sc_is_interval ck_is_interval (by decide +kernel) (by decide +kernel) bd_is_interval a7 l7 c7 k7, ?_⟩
    refine List.forall_mem_cons.mpr ⟨def1_mk X G (f := 13) (x := Str.ofString "middle_of") rfl sc_middle_of ck_middle_of (by decide +kernel) (by decide +kernel) bd_middle_of a8 l8 c8 k8, ?_⟩
    refine List.forall_mem_cons.mpr ⟨def1_mk X G (f := 14) (x := Str.ofString "width_of") rfl sc_width_of ck_width_of (by decide +kernel) (by decide +kernel) bd_width_of a9 l9 c9 k9, ?_⟩
    refine List.forall_mem_cons.mpr ⟨def1_mk X G (f := 147) (x := Str.ofString "is_box") rfl sc_is_box ck_is_box (by decide +kernel) (by decide +kernel) bd_is_box a10 l10 c10 k10, ?_⟩
    refine List.forall_mem_cons.mpr ⟨def1_mk X G (f := 148) (x := Str.ofString "box_middle") rfl sc_box_middle ck_box_middle (by decide +kernel) (by decide +kernel) bd_box_middle a11 l11 c11 k11, ?_⟩
    refine List.forall_mem_cons.mpr ⟨def1_mk X G (f := 149) (x := Str.ofString "box_widths") rfl sc_box_widths ck_box_widths (by decide +kernel) (by decide +kernel) bd_box_widths a12 l12 c12 k12, ?_⟩
    refine List.forall_mem_cons.mpr ⟨def1_mk X G (f := 150) (x := Str.ofString "longest") rfl sc_longest ck_longest (by decide +kernel) (by decide +kernel) bd_longest a13 l13 c13 k13, ?_⟩
    refine List.forall_mem_cons.mpr ⟨def1_mk X G (f := 151) (x := Str.ofString "with_interval") rfl sc_with_interval ck_with_interval (by decide +kernel) (by decide +kernel) bd_with_interval a14 l14 c14 k14, ?_⟩
    refine List.forall_mem_cons.mpr ⟨def1_mk X G (f := 152) (x := Str.ofString "halves") rfl sc_halves ck_halves (by decide +kernel) (by decide +kernel) bd_halves a15 l15 c15 k15, ?_⟩
    refine List.forall_mem_cons.mpr ⟨def1_mk X G (f := 153) (x := Str.ofString "corners") rfl sc_corners ck_corners (by decide +kernel) (by decide +kernel) bd_corners a16 l16 c16 k16, ?_⟩
    refine List.forall_mem_cons.mpr ⟨def1_mk X G (f := 35) (x := Str.ofString "_law_cell") rfl sc_l_cell ck_l_cell (by decide +kernel) (by decide +kernel) bd_l_cell a17 l17 c17 k17, ?_⟩
    refine List.forall_mem_cons.mpr ⟨def1_mk X G (f := 36) (x := Str.ofString "_law_draws") rfl sc_l_draws ck_l_draws (by decide +kernel) (by decide +kernel) bd_l_draws a18 l18 c18 k18, ?_⟩
    refine List.forall_mem_cons.mpr ⟨def1_mk X G (f := 67) (x := Str.ofString "_law_is_int") rfl sc_l_is_int ck_l_is_int (by decide +kernel) (by decide +kernel) bd_l_is_int a19 l19 c19 k19, ?_⟩
    refine List.forall_mem_cons.mpr ⟨def1_mk X G (f := 102) (x := Str.ofString "_law_is_text") rfl sc_l_is_text ck_l_is_text (by decide +kernel) (by decide +kernel) bd_l_is_text a20 l20 c20 k20, ?_⟩
    refine List.forall_mem_cons.mpr ⟨def1_mk X G (f := 68) (x := Str.ofString "_law_is_number") rfl sc_l_is_number ck_l_is_number (by decide +kernel) (by decide +kernel) bd_l_is_number a21 l21 c21 k21, ?_⟩
    refine List.forall_mem_cons.mpr ⟨def1_mk X G (f := 37) (x := Str.ofString "_law_gcd") rfl sc_l_gcd ck_l_gcd (by decide +kernel) (by decide +kernel) bd_l_gcd a22 l22 c22 k22, ?_⟩
    refine List.forall_mem_cons.mpr ⟨def1_mk X G (f := 38) (x := Str.ofString "_law_frac") rfl sc_l_frac ck_l_frac (by decide +kernel) (by decide +kernel) bd_l_frac a23 l23 c23 k23, ?_⟩
    refine List.forall_mem_cons.mpr ⟨def1_mk X G (f := 39) (x := Str.ofString "_law_add") rfl sc_l_add ck_l_add (by decide +kernel) (by decide +kernel) bd_l_add a24 l24 c24 k24, ?_⟩
    refine List.forall_mem_cons.mpr ⟨def1_mk X G (f := 40) (x := Str.ofString "_law_neg") rfl sc_l_neg ck_l_neg (by decide +kernel) (by decide +kernel) bd_l_neg a25 l25 c25 k25, ?_⟩
    refine List.forall_mem_cons.mpr ⟨def1_mk X G (f := 41) (x := Str.ofString "_law_sub") rfl sc_l_sub ck_l_sub (by decide +kernel) (by decide +kernel) bd_l_sub a26 l26 c26 k26, ?_⟩
    refine List.forall_mem_cons.mpr ⟨def1_mk X G (f := 42) (x := Str.ofString "_law_mul") rfl sc_l_mul ck_l_mul (by decide +kernel) (by decide +kernel) bd_l_mul a27 l27 c27 k27, ?_⟩
    refine List.forall_mem_cons.mpr ⟨def1_mk X G (f := 43) (x := Str.ofString "_law_less") rfl sc_l_less ck_l_less (by decide +kernel) (by decide +kernel) bd_l_less a28 l28 c28 k28, ?_⟩
    refine List.forall_mem_cons.mpr ⟨def1_mk X G (f := 69) (x := Str.ofString "_law_least") rfl sc_l_least ck_l_least (by decide +kernel) (by decide +kernel) bd_l_least a29 l29 c29 k29, ?_⟩
    refine List.forall_mem_cons.mpr ⟨def1_mk X G (f := 70) (x := Str.ofString "_law_most") rfl sc_l_most ck_l_most (by decide +kernel) (by decide +kernel) bd_l_most a30 l30 c30 k30, ?_⟩
    refine List.forall_mem_cons.mpr ⟨def1_mk X G (f := 104) (x := Str.ofString "_law_same") rfl sc_l_same ck_l_same (by decide +kernel) (by decide +kernel) bd_l_same a31 l31 c31 k31, ?_⟩
    refine List.forall_mem_cons.mpr ⟨def1_mk X G (f := 71) (x := Str.ofString "_law_small") rfl sc_l_small ck_l_small (by decide +kernel) (by decide +kernel) bd_l_small a32 l32 c32 k32, ?_⟩
    refine List.forall_mem_cons.mpr ⟨def1_mk X G (f := 154) (x := Str.ofString "_law_span") rfl sc_l_span ck_l_span (by decide +kernel) (by decide +kernel) bd_l_span a33 l33 c33 k33, ?_⟩
    refine List.forall_mem_cons.mpr ⟨def1_mk X G (f := 89) (x := Str.ofString "_law_values") rfl sc_l_values ck_l_values (by decide +kernel) (by decide +kernel) bd_l_values a34 l34 c34 k34, ?_⟩
    refine List.forall_mem_cons.mpr ⟨def1_mk X G (f := 78) (x := Str.ofString "_law_middle") rfl sc_l_middle ck_l_middle (by decide +kernel) (by decide +kernel) bd_l_middle a35 l35 c35 k35, ?_⟩
    refine List.forall_mem_cons.mpr ⟨def1_mk X G (f := 155) (x := Str.ofString "_law_box") rfl sc_l_box ck_l_box (by decide +kernel) (by decide +kernel) bd_l_box a36 l36 c36 k36, ?_⟩
    refine List.forall_mem_cons.mpr ⟨def1_mk X G (f := 156) (x := Str.ofString "_law_mid") rfl sc_l_mid ck_l_mid (by decide +kernel) (by decide +kernel) bd_l_mid a37 l37 c37 k37, ?_⟩
    refine List.forall_mem_cons.mpr ⟨def1_mk X G (f := 157) (x := Str.ofString "_law_longest") rfl sc_l_longest ck_l_longest (by decide +kernel) (by decide +kernel) bd_l_longest a38 l38 c38 k38, ?_⟩
    refine List.forall_mem_cons.mpr ⟨def1_mk X G (f := 158) (x := Str.ofString "_law_halves") rfl sc_l_halves ck_l_halves (by decide +kernel) (by decide +kernel) bd_l_halves a39 l39 c39 k39, ?_⟩
    refine List.forall_mem_cons.mpr ⟨def1_mk X G (f := 159) (x := Str.ofString "law") rfl sc_law_k43 ck_law_k43 (by decide +kernel) (by decide +kernel) bd_law_k43 a40 l40 c40 k40, ?_⟩
    intro p hp
    cases hp
  have hb : ∀ p ∈ L_k43.bl, mg p = none := by
    unfold L_k43
    refine List.forall_mem_cons.mpr ⟨PySem.W.mg_none_of X G z0, ?_⟩
    refine List.forall_mem_cons.mpr ⟨PySem.W.mg_none_of X G z1, ?_⟩
    refine List.forall_mem_cons.mpr ⟨PySem.W.mg_none_of X G z2, ?_⟩
    refine List.forall_mem_cons.mpr ⟨PySem.W.mg_none_of X G z3, ?_⟩
    refine List.forall_mem_cons.mpr ⟨PySem.W.mg_none_of X G z4, ?_⟩
    refine List.forall_mem_cons.mpr ⟨PySem.W.mg_none_of X G z5, ?_⟩
    refine List.forall_mem_cons.mpr ⟨PySem.W.mg_none_of X G z6, ?_⟩
    refine List.forall_mem_cons.mpr ⟨PySem.W.mg_none_of X G z7, ?_⟩
    refine List.forall_mem_cons.mpr ⟨PySem.W.mg_none_of X G z8, ?_⟩
    refine List.forall_mem_cons.mpr ⟨PySem.W.mg_none_of X G z9, ?_⟩
    intro p hp
    cases hp
  have hm : ∀ p ∈ L_k43.mf, mg p.1 = some (Value.builtin p.2) := by
    unfold L_k43
    refine List.forall_mem_cons.mpr ⟨PySem.W.mg_of X G y0, ?_⟩
    intro p hp
    cases hp
  have hg : L_k43.gl = [] := rfl
  refine ⟨fun f x h => hd (f, x) (by simpa using h), fun g x h => ?_, fun x h => hb x (by simpa using h), fun x id h => hm (x, id) (by simpa using h)⟩
  rw [hg] at h
  cases h
theorem end_k43 {l : PySem.W.OpenLaw} {w : World} {K : PySem.W.Frag} {h : Heap} {mg : Str → Option Value} {fa : Addr} (X : K.In h) (G : h.Ns mainGlobals mg) (hfa : mg (Str.ofString "law") = some (.ref fa))
    {f0 : Addr} {od0 an0 : Option Addr} {sl0 : Array (Option Value)} {oc0 kV0 dc0 pm0 cd0 ct0 : Value}
    (a0 : PySem.W.nsIn K mainGlobals (Str.ofString "number") = some (some (.ref f0))) (l0 : K.lookup f0 = some ⟨oc0, od0, .func (PySem.W.fnOf (Str.ofString "number") (Str.ofString "number") (defArgs (topS 5)) (defBody (topS 5)) (defScope (topS 5)) .none kV0 dc0 pm0 an0 cd0 ct0), sl0⟩) (c0 : PySem.W.codeIn K cd0 (Str.ofString "number") = true) (k0 : PySem.W.keepIn K (.ref f0) = true)
    {f1 : Addr} {od1 an1 : Option Addr} {sl1 : Array (Option Value)} {oc1 kV1 dc1 pm1 cd1 ct1 : Value}
    (a1 : PySem.W.nsIn K mainGlobals (Str.ofString "is_integer") = some (some (.ref f1))) (l1 : K.lookup f1 = some ⟨oc1, od1, .func (PySem.W.fnOf (Str.ofString "is_integer") (Str.ofString "is_integer") (defArgs (topS 6)) (defBody (topS 6)) (defScope (topS 6)) .none kV1 dc1 pm1 an1 cd1 ct1), sl1⟩) (c1 : PySem.W.codeIn K cd1 (Str.ofString "is_integer") = true) (k1 : PySem.W.keepIn K (.ref f1) = true)
    {f2 : Addr} {od2 an2 : Option Addr} {sl2 : Array (Option Value)} {oc2 kV2 dc2 pm2 cd2 ct2 : Value}
    (a2 : PySem.W.nsIn K mainGlobals (Str.ofString "is_number") = some (some (.ref f2))) (l2 : K.lookup f2 = some ⟨oc2, od2, .func (PySem.W.fnOf (Str.ofString "is_number") (Str.ofString "is_number") (defArgs (topS 7)) (defBody (topS 7)) (defScope (topS 7)) .none kV2 dc2 pm2 an2 cd2 ct2), sl2⟩) (c2 : PySem.W.codeIn K cd2 (Str.ofString "is_number") = true) (k2 : PySem.W.keepIn K (.ref f2) = true)
    {f3 : Addr} {od3 an3 : Option Addr} {sl3 : Array (Option Value)} {oc3 kV3 dc3 pm3 cd3 ct3 : Value}
    (a3 : PySem.W.nsIn K mainGlobals (Str.ofString "plus") = some (some (.ref f3))) (l3 : K.lookup f3 = some ⟨oc3, od3, .func (PySem.W.fnOf (Str.ofString "plus") (Str.ofString "plus") (defArgs (topS 8)) (defBody (topS 8)) (defScope (topS 8)) .none kV3 dc3 pm3 an3 cd3 ct3), sl3⟩) (c3 : PySem.W.codeIn K cd3 (Str.ofString "plus") = true) (k3 : PySem.W.keepIn K (.ref f3) = true)
    {f4 : Addr} {od4 an4 : Option Addr} {sl4 : Array (Option Value)} {oc4 kV4 dc4 pm4 cd4 ct4 : Value}
    (a4 : PySem.W.nsIn K mainGlobals (Str.ofString "minus") = some (some (.ref f4))) (l4 : K.lookup f4 = some ⟨oc4, od4, .func (PySem.W.fnOf (Str.ofString "minus") (Str.ofString "minus") (defArgs (topS 9)) (defBody (topS 9)) (defScope (topS 9)) .none kV4 dc4 pm4 an4 cd4 ct4), sl4⟩) (c4 : PySem.W.codeIn K cd4 (Str.ofString "minus") = true) (k4 : PySem.W.keepIn K (.ref f4) = true)
    {f5 : Addr} {od5 an5 : Option Addr} {sl5 : Array (Option Value)} {oc5 kV5 dc5 pm5 cd5 ct5 : Value}
    (a5 : PySem.W.nsIn K mainGlobals (Str.ofString "compare") = some (some (.ref f5))) (l5 : K.lookup f5 = some ⟨oc5, od5, .func (PySem.W.fnOf (Str.ofString "compare") (Str.ofString "compare") (defArgs (topS 10)) (defBody (topS 10)) (defScope (topS 10)) .none kV5 dc5 pm5 an5 cd5 ct5), sl5⟩) (c5 : PySem.W.codeIn K cd5 (Str.ofString "compare") = true) (k5 : PySem.W.keepIn K (.ref f5) = true)
    {f6 : Addr} {od6 an6 : Option Addr} {sl6 : Array (Option Value)} {oc6 kV6 dc6 pm6 cd6 ct6 : Value}
    (a6 : PySem.W.nsIn K mainGlobals (Str.ofString "half") = some (some (.ref f6))) (l6 : K.lookup f6 = some ⟨oc6, od6, .func (PySem.W.fnOf (Str.ofString "half") (Str.ofString "half") (defArgs (topS 11)) (defBody (topS 11)) (defScope (topS 11)) .none kV6 dc6 pm6 an6 cd6 ct6), sl6⟩) (c6 : PySem.W.codeIn K cd6 (Str.ofString "half") = true) (k6 : PySem.W.keepIn K (.ref f6) = true)
    {f7 : Addr} {od7 an7 : Option Addr} {sl7 : Array (Option Value)} {oc7 kV7 dc7 pm7 cd7 ct7 : Value}
    (a7 : PySem.W.nsIn K mainGlobals (Str.ofString "is_interval") = some (some (.ref f7))) (l7 : K.lookup f7 = some ⟨oc7, od7, .func (PySem.W.fnOf (Str.ofString "is_interval") (Str.ofString "is_interval") (defArgs (topS 13)) (defBody (topS 13)) (defScope (topS 13)) .none kV7 dc7 pm7 an7 cd7 ct7), sl7⟩) (c7 : PySem.W.codeIn K cd7 (Str.ofString "is_interval") = true) (k7 : PySem.W.keepIn K (.ref f7) = true)
    {f8 : Addr} {od8 an8 : Option Addr} {sl8 : Array (Option Value)} {oc8 kV8 dc8 pm8 cd8 ct8 : Value}
    (a8 : PySem.W.nsIn K mainGlobals (Str.ofString "middle_of") = some (some (.ref f8))) (l8 : K.lookup f8 = some ⟨oc8, od8, .func (PySem.W.fnOf (Str.ofString "middle_of") (Str.ofString "middle_of") (defArgs (topS 14)) (defBody (topS 14)) (defScope (topS 14)) .none kV8 dc8 pm8 an8 cd8 ct8), sl8⟩) (c8 : PySem.W.codeIn K cd8 (Str.ofString "middle_of") = true) (k8 : PySem.W.keepIn K (.ref f8) = true)
    {f9 : Addr} {od9 an9 : Option Addr} {sl9 : Array (Option Value)} {oc9 kV9 dc9 pm9 cd9 ct9 : Value}
    (a9 : PySem.W.nsIn K mainGlobals (Str.ofString "width_of") = some (some (.ref f9))) (l9 : K.lookup f9 = some ⟨oc9, od9, .func (PySem.W.fnOf (Str.ofString "width_of") (Str.ofString "width_of") (defArgs (topS 15)) (defBody (topS 15)) (defScope (topS 15)) .none kV9 dc9 pm9 an9 cd9 ct9), sl9⟩) (c9 : PySem.W.codeIn K cd9 (Str.ofString "width_of") = true) (k9 : PySem.W.keepIn K (.ref f9) = true)
    {f10 : Addr} {od10 an10 : Option Addr} {sl10 : Array (Option Value)} {oc10 kV10 dc10 pm10 cd10 ct10 : Value}
    (a10 : PySem.W.nsIn K mainGlobals (Str.ofString "is_box") = some (some (.ref f10))) (l10 : K.lookup f10 = some ⟨oc10, od10, .func (PySem.W.fnOf (Str.ofString "is_box") (Str.ofString "is_box") (defArgs (topS 17)) (defBody (topS 17)) (defScope (topS 17)) .none kV10 dc10 pm10 an10 cd10 ct10), sl10⟩) (c10 : PySem.W.codeIn K cd10 (Str.ofString "is_box") = true) (k10 : PySem.W.keepIn K (.ref f10) = true)
    {f11 : Addr} {od11 an11 : Option Addr} {sl11 : Array (Option Value)} {oc11 kV11 dc11 pm11 cd11 ct11 : Value}
    (a11 : PySem.W.nsIn K mainGlobals (Str.ofString "box_middle") = some (some (.ref f11))) (l11 : K.lookup f11 = some ⟨oc11, od11, .func (PySem.W.fnOf (Str.ofString "box_middle") (Str.ofString "box_middle") (defArgs (topS 18)) (defBody (topS 18)) (defScope (topS 18)) .none kV11 dc11 pm11 an11 cd11 ct11), sl11⟩) (c11 : PySem.W.codeIn K cd11 (Str.ofString "box_middle") = true) (k11 : PySem.W.keepIn K (.ref f11) = true)
    {f12 : Addr} {od12 an12 : Option Addr} {sl12 : Array (Option Value)} {oc12 kV12 dc12 pm12 cd12 ct12 : Value}
    (a12 : PySem.W.nsIn K mainGlobals (Str.ofString "box_widths") = some (some (.ref f12))) (l12 : K.lookup f12 = some ⟨oc12, od12, .func (PySem.W.fnOf (Str.ofString "box_widths") (Str.ofString "box_widths") (defArgs (topS 19)) (defBody (topS 19)) (defScope (topS 19)) .none kV12 dc12 pm12 an12 cd12 ct12), sl12⟩) (c12 : PySem.W.codeIn K cd12 (Str.ofString "box_widths") = true) (k12 : PySem.W.keepIn K (.ref f12) = true)
    {f13 : Addr} {od13 an13 : Option Addr} {sl13 : Array (Option Value)} {oc13 kV13 dc13 pm13 cd13 ct13 : Value}
    (a13 : PySem.W.nsIn K mainGlobals (Str.ofString "longest") = some (some (.ref f13))) (l13 : K.lookup f13 = some ⟨oc13, od13, .func (PySem.W.fnOf (Str.ofString "longest") (Str.ofString "longest") (defArgs (topS 20)) (defBody (topS 20)) (defScope (topS 20)) .none kV13 dc13 pm13 an13 cd13 ct13), sl13⟩) (c13 : PySem.W.codeIn K cd13 (Str.ofString "longest") = true) (k13 : PySem.W.keepIn K (.ref f13) = true)
    {f14 : Addr} {od14 an14 : Option Addr} {sl14 : Array (Option Value)} {oc14 kV14 dc14 pm14 cd14 ct14 : Value}
    (a14 : PySem.W.nsIn K mainGlobals (Str.ofString "with_interval") = some (some (.ref f14))) (l14 : K.lookup f14 = some ⟨oc14, od14, .func (PySem.W.fnOf (Str.ofString "with_interval") (Str.ofString "with_interval") (defArgs (topS 21)) (defBody (topS 21)) (defScope (topS 21)) .none kV14 dc14 pm14 an14 cd14 ct14), sl14⟩) (c14 : PySem.W.codeIn K cd14 (Str.ofString "with_interval") = true) (k14 : PySem.W.keepIn K (.ref f14) = true)
    {f15 : Addr} {od15 an15 : Option Addr} {sl15 : Array (Option Value)} {oc15 kV15 dc15 pm15 cd15 ct15 : Value}
    (a15 : PySem.W.nsIn K mainGlobals (Str.ofString "halves") = some (some (.ref f15))) (l15 : K.lookup f15 = some ⟨oc15, od15, .func (PySem.W.fnOf (Str.ofString "halves") (Str.ofString "halves") (defArgs (topS 22)) (defBody (topS 22)) (defScope (topS 22)) .none kV15 dc15 pm15 an15 cd15 ct15), sl15⟩) (c15 : PySem.W.codeIn K cd15 (Str.ofString "halves") = true) (k15 : PySem.W.keepIn K (.ref f15) = true)
    {f16 : Addr} {od16 an16 : Option Addr} {sl16 : Array (Option Value)} {oc16 kV16 dc16 pm16 cd16 ct16 : Value}
    (a16 : PySem.W.nsIn K mainGlobals (Str.ofString "corners") = some (some (.ref f16))) (l16 : K.lookup f16 = some ⟨oc16, od16, .func (PySem.W.fnOf (Str.ofString "corners") (Str.ofString "corners") (defArgs (topS 23)) (defBody (topS 23)) (defScope (topS 23)) .none kV16 dc16 pm16 an16 cd16 ct16), sl16⟩) (c16 : PySem.W.codeIn K cd16 (Str.ofString "corners") = true) (k16 : PySem.W.keepIn K (.ref f16) = true)
    {f17 : Addr} {od17 an17 : Option Addr} {sl17 : Array (Option Value)} {oc17 kV17 dc17 pm17 cd17 ct17 : Value}
    (a17 : PySem.W.nsIn K mainGlobals (Str.ofString "_law_cell") = some (some (.ref f17))) (l17 : K.lookup f17 = some ⟨oc17, od17, .func (PySem.W.fnOf (Str.ofString "_law_cell") (Str.ofString "_law_cell") (defArgs (topS 25)) (defBody (topS 25)) (defScope (topS 25)) .none kV17 dc17 pm17 an17 cd17 ct17), sl17⟩) (c17 : PySem.W.codeIn K cd17 (Str.ofString "_law_cell") = true) (k17 : PySem.W.keepIn K (.ref f17) = true)
    {f18 : Addr} {od18 an18 : Option Addr} {sl18 : Array (Option Value)} {oc18 kV18 dc18 pm18 cd18 ct18 : Value}
    (a18 : PySem.W.nsIn K mainGlobals (Str.ofString "_law_draws") = some (some (.ref f18))) (l18 : K.lookup f18 = some ⟨oc18, od18, .func (PySem.W.fnOf (Str.ofString "_law_draws") (Str.ofString "_law_draws") (defArgs (topS 26)) (defBody (topS 26)) (defScope (topS 26)) .none kV18 dc18 pm18 an18 cd18 ct18), sl18⟩) (c18 : PySem.W.codeIn K cd18 (Str.ofString "_law_draws") = true) (k18 : PySem.W.keepIn K (.ref f18) = true)
    {f19 : Addr} {od19 an19 : Option Addr} {sl19 : Array (Option Value)} {oc19 kV19 dc19 pm19 cd19 ct19 : Value}
    (a19 : PySem.W.nsIn K mainGlobals (Str.ofString "_law_is_int") = some (some (.ref f19))) (l19 : K.lookup f19 = some ⟨oc19, od19, .func (PySem.W.fnOf (Str.ofString "_law_is_int") (Str.ofString "_law_is_int") (defArgs (topS 27)) (defBody (topS 27)) (defScope (topS 27)) .none kV19 dc19 pm19 an19 cd19 ct19), sl19⟩) (c19 : PySem.W.codeIn K cd19 (Str.ofString "_law_is_int") = true) (k19 : PySem.W.keepIn K (.ref f19) = true)
    {f20 : Addr} {od20 an20 : Option Addr} {sl20 : Array (Option Value)} {oc20 kV20 dc20 pm20 cd20 ct20 : Value}
    (a20 : PySem.W.nsIn K mainGlobals (Str.ofString "_law_is_text") = some (some (.ref f20))) (l20 : K.lookup f20 = some ⟨oc20, od20, .func (PySem.W.fnOf (Str.ofString "_law_is_text") (Str.ofString "_law_is_text") (defArgs (topS 28)) (defBody (topS 28)) (defScope (topS 28)) .none kV20 dc20 pm20 an20 cd20 ct20), sl20⟩) (c20 : PySem.W.codeIn K cd20 (Str.ofString "_law_is_text") = true) (k20 : PySem.W.keepIn K (.ref f20) = true)
    {f21 : Addr} {od21 an21 : Option Addr} {sl21 : Array (Option Value)} {oc21 kV21 dc21 pm21 cd21 ct21 : Value}
    (a21 : PySem.W.nsIn K mainGlobals (Str.ofString "_law_is_number") = some (some (.ref f21))) (l21 : K.lookup f21 = some ⟨oc21, od21, .func (PySem.W.fnOf (Str.ofString "_law_is_number") (Str.ofString "_law_is_number") (defArgs (topS 29)) (defBody (topS 29)) (defScope (topS 29)) .none kV21 dc21 pm21 an21 cd21 ct21), sl21⟩) (c21 : PySem.W.codeIn K cd21 (Str.ofString "_law_is_number") = true) (k21 : PySem.W.keepIn K (.ref f21) = true)
    {f22 : Addr} {od22 an22 : Option Addr} {sl22 : Array (Option Value)} {oc22 kV22 dc22 pm22 cd22 ct22 : Value}
    (a22 : PySem.W.nsIn K mainGlobals (Str.ofString "_law_gcd") = some (some (.ref f22))) (l22 : K.lookup f22 = some ⟨oc22, od22, .func (PySem.W.fnOf (Str.ofString "_law_gcd") (Str.ofString "_law_gcd") (defArgs (topS 30)) (defBody (topS 30)) (defScope (topS 30)) .none kV22 dc22 pm22 an22 cd22 ct22), sl22⟩) (c22 : PySem.W.codeIn K cd22 (Str.ofString "_law_gcd") = true) (k22 : PySem.W.keepIn K (.ref f22) = true)
    {f23 : Addr} {od23 an23 : Option Addr} {sl23 : Array (Option Value)} {oc23 kV23 dc23 pm23 cd23 ct23 : Value}
    (a23 : PySem.W.nsIn K mainGlobals (Str.ofString "_law_frac") = some (some (.ref f23))) (l23 : K.lookup f23 = some ⟨oc23, od23, .func (PySem.W.fnOf (Str.ofString "_law_frac") (Str.ofString "_law_frac") (defArgs (topS 31)) (defBody (topS 31)) (defScope (topS 31)) .none kV23 dc23 pm23 an23 cd23 ct23), sl23⟩) (c23 : PySem.W.codeIn K cd23 (Str.ofString "_law_frac") = true) (k23 : PySem.W.keepIn K (.ref f23) = true)
    {f24 : Addr} {od24 an24 : Option Addr} {sl24 : Array (Option Value)} {oc24 kV24 dc24 pm24 cd24 ct24 : Value}
    (a24 : PySem.W.nsIn K mainGlobals (Str.ofString "_law_add") = some (some (.ref f24))) (l24 : K.lookup f24 = some ⟨oc24, od24, .func (PySem.W.fnOf (Str.ofString "_law_add") (Str.ofString "_law_add") (defArgs (topS 32)) (defBody (topS 32)) (defScope (topS 32)) .none kV24 dc24 pm24 an24 cd24 ct24), sl24⟩) (c24 : PySem.W.codeIn K cd24 (Str.ofString "_law_add") = true) (k24 : PySem.W.keepIn K (.ref f24) = true)
    {f25 : Addr} {od25 an25 : Option Addr} {sl25 : Array (Option Value)} {oc25 kV25 dc25 pm25 cd25 ct25 : Value}
    (a25 : PySem.W.nsIn K mainGlobals (Str.ofString "_law_neg") = some (some (.ref f25))) (l25 : K.lookup f25 = some ⟨oc25, od25, .func (PySem.W.fnOf (Str.ofString "_law_neg") (Str.ofString "_law_neg") (defArgs (topS 33)) (defBody (topS 33)) (defScope (topS 33)) .none kV25 dc25 pm25 an25 cd25 ct25), sl25⟩) (c25 : PySem.W.codeIn K cd25 (Str.ofString "_law_neg") = true) (k25 : PySem.W.keepIn K (.ref f25) = true)
    {f26 : Addr} {od26 an26 : Option Addr} {sl26 : Array (Option Value)} {oc26 kV26 dc26 pm26 cd26 ct26 : Value}
    (a26 : PySem.W.nsIn K mainGlobals (Str.ofString "_law_sub") = some (some (.ref f26))) (l26 : K.lookup f26 = some ⟨oc26, od26, .func (PySem.W.fnOf (Str.ofString "_law_sub") (Str.ofString "_law_sub") (defArgs (topS 34)) (defBody (topS 34)) (defScope (topS 34)) .none kV26 dc26 pm26 an26 cd26 ct26), sl26⟩) (c26 : PySem.W.codeIn K cd26 (Str.ofString "_law_sub") = true) (k26 : PySem.W.keepIn K (.ref f26) = true)
    {f27 : Addr} {od27 an27 : Option Addr} {sl27 : Array (Option Value)} {oc27 kV27 dc27 pm27 cd27 ct27 : Value}
    (a27 : PySem.W.nsIn K mainGlobals (Str.ofString "_law_mul") = some (some (.ref f27))) (l27 : K.lookup f27 = some ⟨oc27, od27, .func (PySem.W.fnOf (Str.ofString "_law_mul") (Str.ofString "_law_mul") (defArgs (topS 35)) (defBody (topS 35)) (defScope (topS 35)) .none kV27 dc27 pm27 an27 cd27 ct27), sl27⟩) (c27 : PySem.W.codeIn K cd27 (Str.ofString "_law_mul") = true) (k27 : PySem.W.keepIn K (.ref f27) = true)
    {f28 : Addr} {od28 an28 : Option Addr} {sl28 : Array (Option Value)} {oc28 kV28 dc28 pm28 cd28 ct28 : Value}
    (a28 : PySem.W.nsIn K mainGlobals (Str.ofString "_law_less") = some (some (.ref f28))) (l28 : K.lookup f28 = some ⟨oc28, od28, .func (PySem.W.fnOf (Str.ofString "_law_less") (Str.ofString "_law_less") (defArgs (topS 36)) (defBody (topS 36)) (defScope (topS 36)) .none kV28 dc28 pm28 an28 cd28 ct28), sl28⟩) (c28 : PySem.W.codeIn K cd28 (Str.ofString "_law_less") = true) (k28 : PySem.W.keepIn K (.ref f28) = true)
    {f29 : Addr} {od29 an29 : Option Addr} {sl29 : Array (Option Value)} {oc29 kV29 dc29 pm29 cd29 ct29 : Value}
    (a29 : PySem.W.nsIn K mainGlobals (Str.ofString "_law_least") = some (some (.ref f29))) (l29 : K.lookup f29 = some ⟨oc29, od29, .func (PySem.W.fnOf (Str.ofString "_law_least") (Str.ofString "_law_least") (defArgs (topS 37)) (defBody (topS 37)) (defScope (topS 37)) .none kV29 dc29 pm29 an29 cd29 ct29), sl29⟩) (c29 : PySem.W.codeIn K cd29 (Str.ofString "_law_least") = true) (k29 : PySem.W.keepIn K (.ref f29) = true)
    {f30 : Addr} {od30 an30 : Option Addr} {sl30 : Array (Option Value)} {oc30 kV30 dc30 pm30 cd30 ct30 : Value}
    (a30 : PySem.W.nsIn K mainGlobals (Str.ofString "_law_most") = some (some (.ref f30))) (l30 : K.lookup f30 = some ⟨oc30, od30, .func (PySem.W.fnOf (Str.ofString "_law_most") (Str.ofString "_law_most") (defArgs (topS 38)) (defBody (topS 38)) (defScope (topS 38)) .none kV30 dc30 pm30 an30 cd30 ct30), sl30⟩) (c30 : PySem.W.codeIn K cd30 (Str.ofString "_law_most") = true) (k30 : PySem.W.keepIn K (.ref f30) = true)
    {f31 : Addr} {od31 an31 : Option Addr} {sl31 : Array (Option Value)} {oc31 kV31 dc31 pm31 cd31 ct31 : Value}
    (a31 : PySem.W.nsIn K mainGlobals (Str.ofString "_law_same") = some (some (.ref f31))) (l31 : K.lookup f31 = some ⟨oc31, od31, .func (PySem.W.fnOf (Str.ofString "_law_same") (Str.ofString "_law_same") (defArgs (topS 39)) (defBody (topS 39)) (defScope (topS 39)) .none kV31 dc31 pm31 an31 cd31 ct31), sl31⟩) (c31 : PySem.W.codeIn K cd31 (Str.ofString "_law_same") = true) (k31 : PySem.W.keepIn K (.ref f31) = true)
    {f32 : Addr} {od32 an32 : Option Addr} {sl32 : Array (Option Value)} {oc32 kV32 dc32 pm32 cd32 ct32 : Value}
    (a32 : PySem.W.nsIn K mainGlobals (Str.ofString "_law_small") = some (some (.ref f32))) (l32 : K.lookup f32 = some ⟨oc32, od32, .func (PySem.W.fnOf (Str.ofString "_law_small") (Str.ofString "_law_small") (defArgs (topS 40)) (defBody (topS 40)) (defScope (topS 40)) .none kV32 dc32 pm32 an32 cd32 ct32), sl32⟩) (c32 : PySem.W.codeIn K cd32 (Str.ofString "_law_small") = true) (k32 : PySem.W.keepIn K (.ref f32) = true)
    {f33 : Addr} {od33 an33 : Option Addr} {sl33 : Array (Option Value)} {oc33 kV33 dc33 pm33 cd33 ct33 : Value}
    (a33 : PySem.W.nsIn K mainGlobals (Str.ofString "_law_span") = some (some (.ref f33))) (l33 : K.lookup f33 = some ⟨oc33, od33, .func (PySem.W.fnOf (Str.ofString "_law_span") (Str.ofString "_law_span") (defArgs (topS 41)) (defBody (topS 41)) (defScope (topS 41)) .none kV33 dc33 pm33 an33 cd33 ct33), sl33⟩) (c33 : PySem.W.codeIn K cd33 (Str.ofString "_law_span") = true) (k33 : PySem.W.keepIn K (.ref f33) = true)
    {f34 : Addr} {od34 an34 : Option Addr} {sl34 : Array (Option Value)} {oc34 kV34 dc34 pm34 cd34 ct34 : Value}
    (a34 : PySem.W.nsIn K mainGlobals (Str.ofString "_law_values") = some (some (.ref f34))) (l34 : K.lookup f34 = some ⟨oc34, od34, .func (PySem.W.fnOf (Str.ofString "_law_values") (Str.ofString "_law_values") (defArgs (topS 42)) (defBody (topS 42)) (defScope (topS 42)) .none kV34 dc34 pm34 an34 cd34 ct34), sl34⟩) (c34 : PySem.W.codeIn K cd34 (Str.ofString "_law_values") = true) (k34 : PySem.W.keepIn K (.ref f34) = true)
    {f35 : Addr} {od35 an35 : Option Addr} {sl35 : Array (Option Value)} {oc35 kV35 dc35 pm35 cd35 ct35 : Value}
    (a35 : PySem.W.nsIn K mainGlobals (Str.ofString "_law_middle") = some (some (.ref f35))) (l35 : K.lookup f35 = some ⟨oc35, od35, .func (PySem.W.fnOf (Str.ofString "_law_middle") (Str.ofString "_law_middle") (defArgs (topS 43)) (defBody (topS 43)) (defScope (topS 43)) .none kV35 dc35 pm35 an35 cd35 ct35), sl35⟩) (c35 : PySem.W.codeIn K cd35 (Str.ofString "_law_middle") = true) (k35 : PySem.W.keepIn K (.ref f35) = true)
    {f36 : Addr} {od36 an36 : Option Addr} {sl36 : Array (Option Value)} {oc36 kV36 dc36 pm36 cd36 ct36 : Value}
    (a36 : PySem.W.nsIn K mainGlobals (Str.ofString "_law_box") = some (some (.ref f36))) (l36 : K.lookup f36 = some ⟨oc36, od36, .func (PySem.W.fnOf (Str.ofString "_law_box") (Str.ofString "_law_box") (defArgs (topS 44)) (defBody (topS 44)) (defScope (topS 44)) .none kV36 dc36 pm36 an36 cd36 ct36), sl36⟩) (c36 : PySem.W.codeIn K cd36 (Str.ofString "_law_box") = true) (k36 : PySem.W.keepIn K (.ref f36) = true)
    {f37 : Addr} {od37 an37 : Option Addr} {sl37 : Array (Option Value)} {oc37 kV37 dc37 pm37 cd37 ct37 : Value}
    (a37 : PySem.W.nsIn K mainGlobals (Str.ofString "_law_mid") = some (some (.ref f37))) (l37 : K.lookup f37 = some ⟨oc37, od37, .func (PySem.W.fnOf (Str.ofString "_law_mid") (Str.ofString "_law_mid") (defArgs (topS 45)) (defBody (topS 45)) (defScope (topS 45)) .none kV37 dc37 pm37 an37 cd37 ct37), sl37⟩) (c37 : PySem.W.codeIn K cd37 (Str.ofString "_law_mid") = true) (k37 : PySem.W.keepIn K (.ref f37) = true)
    {f38 : Addr} {od38 an38 : Option Addr} {sl38 : Array (Option Value)} {oc38 kV38 dc38 pm38 cd38 ct38 : Value}
    (a38 : PySem.W.nsIn K mainGlobals (Str.ofString "_law_longest") = some (some (.ref f38))) (l38 : K.lookup f38 = some ⟨oc38, od38, .func (PySem.W.fnOf (Str.ofString "_law_longest") (Str.ofString "_law_longest") (defArgs (topS 46)) (defBody (topS 46)) (defScope (topS 46)) .none kV38 dc38 pm38 an38 cd38 ct38), sl38⟩) (c38 : PySem.W.codeIn K cd38 (Str.ofString "_law_longest") = true) (k38 : PySem.W.keepIn K (.ref f38) = true)
    {f39 : Addr} {od39 an39 : Option Addr} {sl39 : Array (Option Value)} {oc39 kV39 dc39 pm39 cd39 ct39 : Value}
    (a39 : PySem.W.nsIn K mainGlobals (Str.ofString "_law_halves") = some (some (.ref f39))) (l39 : K.lookup f39 = some ⟨oc39, od39, .func (PySem.W.fnOf (Str.ofString "_law_halves") (Str.ofString "_law_halves") (defArgs (topS 47)) (defBody (topS 47)) (defScope (topS 47)) .none kV39 dc39 pm39 an39 cd39 ct39), sl39⟩) (c39 : PySem.W.codeIn K cd39 (Str.ofString "_law_halves") = true) (k39 : PySem.W.keepIn K (.ref f39) = true)
    {f40 : Addr} {od40 an40 : Option Addr} {sl40 : Array (Option Value)} {oc40 kV40 dc40 pm40 cd40 ct40 : Value}
    (a40 : PySem.W.nsIn K mainGlobals (Str.ofString "law") = some (some (.ref f40))) (l40 : K.lookup f40 = some ⟨oc40, od40, .func (PySem.W.fnOf (Str.ofString "law") (Str.ofString "law") (defArgs (topS 48)) (defBody (topS 48)) (defScope (topS 48)) .none kV40 dc40 pm40 an40 cd40 ct40), sl40⟩) (c40 : PySem.W.codeIn K cd40 (Str.ofString "law") = true) (k40 : PySem.W.keepIn K (.ref f40) = true)
    (z0 : PySem.W.nsIn K mainGlobals (Str.ofString "abs") = some none)
    (z1 : PySem.W.nsIn K mainGlobals (Str.ofString "all") = some none)
    (z2 : PySem.W.nsIn K mainGlobals (Str.ofString "bool") = some none)
    (z3 : PySem.W.nsIn K mainGlobals (Str.ofString "int") = some none)
    (z4 : PySem.W.nsIn K mainGlobals (Str.ofString "isinstance") = some none)
    (z5 : PySem.W.nsIn K mainGlobals (Str.ofString "len") = some none)
    (z6 : PySem.W.nsIn K mainGlobals (Str.ofString "list") = some none)
    (z7 : PySem.W.nsIn K mainGlobals (Str.ofString "range") = some none)
    (z8 : PySem.W.nsIn K mainGlobals (Str.ofString "str") = some none)
    (z9 : PySem.W.nsIn K mainGlobals (Str.ofString "tuple") = some none)
    (y0 : PySem.W.nsIn K mainGlobals (Str.ofString "gcd") = some (some (.builtin "math.gcd"))) :
    ∃ fd : FuncData, (∀ (s : Shared) (v : Value), BindsTo s fd ⟨[v], []⟩ [(Str.ofString "script", v)]) ∧ ∀ base : Heap, K.In base → base.Ns mainGlobals mg → FnOk l.prog w K mg base CX0 (dep_k43 + 1) fa fd [Str.ofString "script"] (spLaw K) := by
  have e := hfa.symm.trans (PySem.W.mg_of X G a40)
  cases e
  have F := facts_k43 X G a0 l0 c0 k0 a1 l1 c1 k1 a2 l2 c2 k2 a3 l3 c3 k3 a4 l4 c4 k4 a5 l5 c5 k5 a6 l6 c6 k6 a7 l7 c7 k7 a8 l8 c8 k8 a9 l9 c9 k9 a10 l10 c10 k10 a11 l11 c11 k11 a12 l12 c12 k12 a13 l13 c13 k13 a14 l14 c14 k14 a15 l15 c15 k15 a16 l16 c16 k16 a17 l17 c17 k17 a18 l18 c18 k18 a19 l19 c19 k19 a20 l20 c20 k20 a21 l21 c21 k21 a22 l22 c22 k22 a23 l23 c23 k23 a24 l24 c24 k24 a25 l25 c25 k25 a26 l26 c26 k26 a27 l27 c27 k27 a28 l28 c28 k28 a29 l29 c29 k29 a30 l30 c30 k30 a31 l31 c31 k31 a32 l32 c32 k32 a33 l33 c33 k33 a34 l34 c34 k34 a35 l35 c35 k35 a36 l36 c36 k36 a37 l37 c37 k37 a38 l38 c38 k38 a39 l39 c39 k39 a40 l40 c40 k40 z0 z1 z2 z3 z4 z5 z6 z7 z8 z9 y0
  have F1 := fun_mk (st := topS 48) l40 c40 k40
  exact ⟨_, fun s v => .of_eq rfl, fun base _ _ => law_ok (NN := NN_k43) F F1 sc_law_k43 ck_law_k43 rfl rfl rfl law_k43_true⟩
end Ev
open PySem PySem.W PyProof.Rows
set_option maxHeartbeats 0 in
theorem PySem.Challenge.cw_rootfast_k43_boxes_holds : PySem.Challenge.rw_rootfast_k43_boxes.Holds := by
  w_on; o_law; k_head; (case hw => w_witness2)
  k_fill
  refine L2.walk_ofB (l := PySem.Challenge.rw_rootfast_k43_boxes) (n := 63) (k := Ev.dep_k43 + 1) (x := "script") (CX := fun _ => L2.CX0) (sp := fun w => Ev.spLaw _) rfl (by decide) rfl ⟨rfl, by decide, by decide⟩ (fun w h Y => PySem.W.kIn_of Y) ?F (fun _ H a ns hl hb ho hS => ⟨a, ns, rfl, hS, hl, hb, ho, fun _ => rfl⟩) (fun _ _ _ _ _ h => h)
  case F =>
    intro w mg fa h KX G hmg
    refine' Ev.end_k43 KX G hmg ?a0 ?l0 ?c0 ?k0 ?a1 ?l1 ?c1 ?k1 ?a2 ?l2 ?c2 ?k2 ?a3 ?l3 ?c3 ?k3 ?a4 ?l4 ?c4 ?k4 ?a5 ?l5 ?c5 ?k5 ?a6 ?l6 ?c6 ?k6 ?a7 ?l7 ?c7 ?k7 ?a8 ?l8 ?c8 ?k8 ?a9 ?l9 ?c9 ?k9 ?a10 ?l10 ?c10 ?k10 ?a11 ?l11 ?c11 ?k11 ?a12 ?l12 ?c12 ?k12 ?a13 ?l13 ?c13 ?k13 ?a14 ?l14 ?c14 ?k14 ?a15 ?l15 ?c15 ?k15 ?a16 ?l16 ?c16 ?k16 ?a17 ?l17 ?c17 ?k17 ?a18 ?l18 ?c18 ?k18 ?a19 ?l19 ?c19 ?k19 ?a20 ?l20 ?c20 ?k20 ?a21 ?l21 ?c21 ?k21 ?a22 ?l22 ?c22 ?k22 ?a23 ?l23 ?c23 ?k23 ?a24 ?l24 ?c24 ?k24 ?a25 ?l25 ?c25 ?k25 ?a26 ?l26 ?c26 ?k26 ?a27 ?l27 ?c27 ?k27 ?a28 ?l28 ?c28 ?k28 ?a29 ?l29 ?c29 ?k29 ?a30 ?l30 ?c30 ?k30 ?a31 ?l31 ?c31 ?k31 ?a32 ?l32 ?c32 ?k32 ?a33 ?l33 ?c33 ?k33 ?a34 ?l34 ?c34 ?k34 ?a35 ?l35 ?c35 ?k35 ?a36 ?l36 ?c36 ?k36 ?a37 ?l37 ?c37 ?k37 ?a38 ?l38 ?c38 ?k38 ?a39 ?l39 ?c39 ?k39 ?a40 ?l40 ?c40 ?k40 ?z0 ?z1 ?z2 ?z3 ?z4 ?z5 ?z6 ?z7 ?z8 ?z9 ?y0
    (case a0 => k_is)
    (case l0 => k_is)
    (case c0 => k_is)
    (case k0 => k_is)
    (case a1 => k_is)
    (case l1 => k_is)
    (case c1 => k_is)
    (case k1 => k_is)
    (case a2 => k_is)
    (case l2 => k_is)
    (case c2 => k_is)
    (case k2 => k_is)
    (case a3 => k_is)
    (case l3 => k_is)
    (case c3 => k_is)
    (case k3 => k_is)
    (case a4 => k_is)
    (case l4 => k_is)
    (case c4 => k_is)
    (case k4 => k_is)
    (case a5 => k_is)
    (case l5 => k_is)
    (case c5 => k_is)
    (case k5 => k_is)
    (case a6 => k_is)
    (case l6 => k_is)
    (case c6 => k_is)
    (case k6 => k_is)
    (case a7 => k_is)
    (case l7 => k_is)
    (case c7 => k_is)
    (case k7 => k_is)
    (case a8 => k_is)
    (case l8 => k_is)
    (case c8 => k_is)
    (case k8 => k_is)
    (case a9 => k_is)
    (case l9 => k_is)
    (case c9 => k_is)
    (case k9 => k_is)
    (case a10 => k_is)
    (case l10 => k_is)
    (case c10 => k_is)
    (case k10 => k_is)
    (case a11 => k_is)
    (case l11 => k_is)
    (case c11 => k_is)
    (case k11 => k_is)
    (case a12 => k_is)
    (case l12 => k_is)
    (case c12 => k_is)
    (case k12 => k_is)
    (case a13 => k_is)
    (case l13 => k_is)
    (case c13 => k_is)
    (case k13 => k_is)
    (case a14 => k_is)
    (case l14 => k_is)
    (case c14 => k_is)
    (case k14 => k_is)
    (case a15 => k_is)
    (case l15 => k_is)
    (case c15 => k_is)
    (case k15 => k_is)
    (case a16 => k_is)
    (case l16 => k_is)
    (case c16 => k_is)
    (case k16 => k_is)
    (case a17 => k_is)
    (case l17 => k_is)
    (case c17 => k_is)
    (case k17 => k_is)
    (case a18 => k_is)
    (case l18 => k_is)
    (case c18 => k_is)
    (case k18 => k_is)
    (case a19 => k_is)
    (case l19 => k_is)
    (case c19 => k_is)
    (case k19 => k_is)
    (case a20 => k_is)
    (case l20 => k_is)
    (case c20 => k_is)
    (case k20 => k_is)
    (case a21 => k_is)
    (case l21 => k_is)
    (case c21 => k_is)
    (case k21 => k_is)
    (case a22 => k_is)
    (case l22 => k_is)
    (case c22 => k_is)
    (case k22 => k_is)
    (case a23 => k_is)
    (case l23 => k_is)
    (case c23 => k_is)
    (case k23 => k_is)
    (case a24 => k_is)
    (case l24 => k_is)
    (case c24 => k_is)
    (case k24 => k_is)
    (case a25 => k_is)
    (case l25 => k_is)
    (case c25 => k_is)
    (case k25 => k_is)
    (case a26 => k_is)
    (case l26 => k_is)
    (case c26 => k_is)
    (case k26 => k_is)
    (case a27 => k_is)
    (case l27 => k_is)
    (case c27 => k_is)
    (case k27 => k_is)
    (case a28 => k_is)
    (case l28 => k_is)
    (case c28 => k_is)
    (case k28 => k_is)
    (case a29 => k_is)
    (case l29 => k_is)
    (case c29 => k_is)
    (case k29 => k_is)
    (case a30 => k_is)
    (case l30 => k_is)
    (case c30 => k_is)
    (case k30 => k_is)
    (case a31 => k_is)
    (case l31 => k_is)
    (case c31 => k_is)
    (case k31 => k_is)
    (case a32 => k_is)
    (case l32 => k_is)
    (case c32 => k_is)
    (case k32 => k_is)
    (case a33 => k_is)
    (case l33 => k_is)
    (case c33 => k_is)
    (case k33 => k_is)
    (case a34 => k_is)
    (case l34 => k_is)
    (case c34 => k_is)
    (case k34 => k_is)
    (case a35 => k_is)
    (case l35 => k_is)
    (case c35 => k_is)
    (case k35 => k_is)
    (case a36 => k_is)
    (case l36 => k_is)
    (case c36 => k_is)
    (case k36 => k_is)
    (case a37 => k_is)
    (case l37 => k_is)
    (case c37 => k_is)
    (case k37 => k_is)
    (case a38 => k_is)
    (case l38 => k_is)
    (case c38 => k_is)
    (case k38 => k_is)
    (case a39 => k_is)
    (case l39 => k_is)
    (case c39 => k_is)
    (case k39 => k_is)
    (case a40 => k_is)
    (case l40 => k_is)
    (case c40 => k_is)
    (case k40 => k_is)
    (case z0 => k_is)
    (case z1 => k_is)
    (case z2 => k_is)
    (case z3 => k_is)
    (case z4 => k_is)
    (case z5 => k_is)
    (case z6 => k_is)
    (case z7 => k_is)
    (case z8 => k_is)
    (case z9 => k_is)
    (case y0 => k_is)

