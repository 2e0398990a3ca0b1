import PyProof.Rows.All
import Wide.All
import OpenK.AllK
import Wide.FinOn
import HandS.ForMost
import HandS.EndTab
import HandS.Walk
import HandS.Zip
import HandS.Flow
import HandS.Deep
import HandS.Exc
import HandS.ExcOwn
import HandS.TryOnly
import HandS.Lambda
import HandS.IsInst
import HandS.AnyAll
import HandS.TupAny
import HandS.TupMul
import HandS.WideBits
import HandS.Conv
import HandS.Rev
import KE.SortData
import KE.DataCmp
import KE.DataMinMax
import KE.DatumOrd
import KE.KTupSum
import KE.GoesMore
import KE.GoesEnum
import KE.GoesZip
import HandS.CallSlots
import HandS.GenOver
import HandS.Style
import HandS.HeadHook4
import HandS.HeadWalk
import HandS.Defaults
import KE.KStateDown
import HandS.Head0
import HandS.Head1
import HandS.Head2
import HandS.HeadEnd
import KE.BitLaws
import KE.OsArith
import PySem.Challenge.RW_truthworks_k27_learning_weights
set_option Elab.async false
set_option linter.all false
set_option maxRecDepth 100000
/-! EvA: the pure evaluator. Values are PyData; a small language Tm, Sm; R: ok, an exception, or bad (not covered). -/
namespace EV
open PySem

abbrev D := PyData
inductive R (α : Type) : Type where
  | ok (a : α)
  | exc (c : Nat)
  | bad
  deriving DecidableEq
@[reducible] def R.bind {α β : Type} (x : R α) (f : α → R β) : R β := match x with
  | .ok a => f a
  | .exc c => .exc c
  | .bad => .bad
instance : Monad R where
  pure := R.ok
  bind := R.bind
/-- an exception may not leave here -/
def R.calm {α : Type} : R α → R α
  | .ok a => .ok a
  | _ => .bad

abbrev LN : Nat := 16777216

/-! ### values -/
def truth : D → R Bool
  | .none => .ok false
  | .bool b => .ok b
  | .int i => .ok (i != 0)
  | .str s => if s.length ≤ LN then .ok ((s.length : Int) != 0) else .bad
  | .list xs => .ok (!xs.isEmpty)
  | .tuple xs => .ok (!xs.isEmpty)
  | .dict _ => .bad

def smallI (i : Int) : Bool := decide (-18446744073709551616 < i) && decide (i < 18446744073709551616)
def intop : Operator → Int → Int → R D
  | .Add, i, j => .ok (.int (i + j))
  | .Sub, i, j => .ok (.int (i - j))
  | .Mult, i, j => if smallI i || smallI j then .ok (.int (i * j)) else .bad
  | .FloorDiv, i, j => if decide (j ≠ 0) && decide (j.natAbs < 1073741824) then .ok (.int (i.fdiv j)) else .bad
  | .Mod, i, j => if decide (j ≠ 0) then .ok (.int (i.fmod j)) else .bad
  | .Pow, i, j => if decide (0 ≤ j) && decide (j ≤ 1000000) && decide (i.natAbs < 18446744073709551616) then .ok (.int (i ^ j.toNat)) else .bad
  | .LShift, i, j => if decide (0 ≤ j) && decide (j ≤ 1000000) && decide (i.natAbs < 18446744073709551616) then .ok (.int (i * 2 ^ j.toNat)) else .bad
  | .RShift, i, j => if decide (0 ≤ j) then .ok (.int (i / 2 ^ j.toNat)) else .bad
  | .BitAnd, i, j => .ok (.int (Builtin.bitAnd i j))
  | .BitOr, i, j => .ok (.int (Builtin.bitOr i j))
  | .BitXor, i, j => .ok (.int (Builtin.bitXor i j))
  | _, _, _ => .bad
def binop : Operator → D → D → R D
  | op, .int i, .int j => intop op i j
  | .Add, .tuple a, .tuple b => if a.length + b.length ≤ LN then .ok (.tuple (a ++ b)) else .bad
  | .Add, .list a, .list b => if a.length + b.length ≤ LN then .ok (.list (a ++ b)) else .bad
  | .Add, .str a, .str b => if a.length + b.length ≤ LN then .ok (.str (a ++ b)) else .bad
  | .Mult, .tuple a, .int k => if decide (2 ≤ k) && decide (k ≤ 1000) && decide (a.length ≤ 1000) && !a.isEmpty then .ok (.tuple (List.replicate k.toNat a).flatten) else .bad
  | _, _, _ => .bad
/-- a display times an int -/
def repL (ds : List D) : D → R D
  | .int k => if decide (-9223372036854775808 ≤ k) && decide (k < 9223372036854775808) && decide (ds.length * k.toNat ≤ LN) then .ok (.list (List.replicate k.toNat ds).flatten) else .bad
  | _ => .bad
def unop : UnaryOp → D → R D
  | .USub, .int i => .ok (.int (-i))
  | .Invert, .int i => .ok (.int (Builtin.bitNot i))
  | _, _ => .bad

/-- tuples of ints by places -/
def ints? : List D → Option (List Int)
  | [] => some []
  | .int i :: r => match ints? r with | some l => some (i :: l) | none => none
  | _ :: _ => none
def dlook (kvs : List (D × D)) (k : D) : Option D := match kvs with
  | [] => none
  | (a, v) :: r => if PyData.eqv a k then some v else dlook r k
def dput (kvs : List (D × D)) (k v : D) : List (D × D) := match kvs with
  | [] => [(k, v)]
  | (a, w) :: r => if PyData.eqv a k then (a, v) :: r else (a, w) :: dput r k v
/-- what may be a key: an int, a text; a tuple of such -/
def flatKey : D → Bool
  | .int _ => true
  | .str _ => true
  | _ => false
def isKey : D → Bool
  | .int _ => true
  | .str _ => true
  | .tuple ks => ks.all flatKey
  | _ => false
def eqok (a b : D) : Bool := SeqAt.shaped a && SeqAt.shaped b
def cmpop : CmpOp → D → D → R Bool
  | .Eq, a, b => if eqok a b then .ok (PyData.eqv a b) else .bad
  | .NotEq, a, b => if eqok a b then .ok (!PyData.eqv a b) else .bad
  | .Is, a, .none => .ok (match a with | .none => true | _ => false)
  | .IsNot, a, .none => .ok (match a with | .none => false | _ => true)
  | .Lt, .int i, .int j => .ok (decide (i < j))
  | .LtE, .int i, .int j => .ok (decide (i ≤ j))
  | .Gt, .int i, .int j => .ok (decide (j < i))
  | .GtE, .int i, .int j => .ok (decide (j ≤ i))
  | .Lt, .tuple a, .tuple b => if SeqAt.shaped (.tuple a) && SeqAt.shaped (.tuple b) && W.alike (.tuple a) (.tuple b) then .ok (W.dataLt (.tuple a) (.tuple b)) else .bad
  | .Gt, .tuple a, .tuple b => if SeqAt.shaped (.tuple a) && SeqAt.shaped (.tuple b) && W.alike (.tuple a) (.tuple b) then .ok (W.dataLt (.tuple b) (.tuple a)) else .bad
  | .In, a, .list ds => if eqok a (.list ds) then .ok (ds.any fun z => PyData.eqv z a) else .bad
  | .NotIn, a, .list ds => if eqok a (.list ds) then .ok (!ds.any fun z => PyData.eqv z a) else .bad
  | .In, a, .tuple ds => if eqok a (.tuple ds) then .ok (ds.any fun z => PyData.eqv z a) else .bad
  | .NotIn, a, .tuple ds => if eqok a (.tuple ds) then .ok (!ds.any fun z => PyData.eqv z a) else .bad
  | _, _, _ => .bad

/-- the place of an index, from behind where it is negative -/
def place? (n : Nat) (i : Int) : Option Nat := if 0 ≤ i then (if i.toNat < n then some i.toNat else none) else (if 0 ≤ i + n then some (i + n).toNat else none)
def index : D → D → R D
  | .list xs, .int i => match place? xs.length i with
    | some j => match xs[j]? with | some d => .ok d | none => .bad
    | none => .bad
  | .tuple xs, .int i => match place? xs.length i with
    | some j => match xs[j]? with | some d => .ok d | none => .bad
    | none => .bad
  | _, _ => .bad

/-! ### built-ins -/
inductive Ty where
  | int | bool | str | list | tuple
  deriving DecidableEq
def isTy : Ty → D → R Bool
  | _, .dict _ => .bad
  | .int, .int _ => .ok true
  | .int, .bool _ => .ok true
  | .int, _ => .ok false
  | .bool, .bool _ => .ok true
  | .bool, _ => .ok false
  | .str, .str _ => .ok true
  | .str, _ => .ok false
  | .list, .list _ => .ok true
  | .list, _ => .ok false
  | .tuple, .tuple _ => .ok true
  | .tuple, _ => .ok false
inductive Bi where
  | len | abs | int | tuple | list | sum | min | max | bitlen
  deriving DecidableEq
def minI : List Int → Int → Int
  | [], a => a
  | x :: r, a => minI r (if x < a then x else a)
def maxI : List Int → Int → Int
  | [], a => a
  | x :: r, a => maxI r (if x > a then x else a)
def bicall : Bi → List D → R D
  | .len, [.list xs] => .ok (.int xs.length)
  | .len, [.tuple xs] => .ok (.int xs.length)
  | .abs, [.int i] => .ok (.int (if i < 0 then -i else i))
  | .int, [.int i] => .ok (.int i)
  | .int, [.bool b] => .ok (.int (if b then 1 else 0))
  | .tuple, [.list xs] => .ok (.tuple xs)
  | .tuple, [.tuple xs] => .ok (.tuple xs)
  | .list, [.list xs] => .ok (.list xs)
  | .list, [.tuple xs] => .ok (.list xs)
  | .sum, [.list xs] => match ints? xs with
    | some l => .ok (.int l.sum)
    | none => .bad
  | .sum, [.tuple xs] => match ints? xs with
    | some l => .ok (.int l.sum)
    | none => .bad
  | .min, [.list xs] => match ints? xs with
    | some (x :: l) => .ok (.int (minI l x))
    | _ => .bad
  | .max, [.list xs] => match ints? xs with
    | some (x :: l) => .ok (.int (maxI l x))
    | _ => .bad
  | .min, [.int i, .int j] => .ok (.int (if j < i then j else i))
  | .max, [.int i, .int j] => .ok (.int (if j > i then j else i))
  | .bitlen, [.int i] => .ok (.int (Builtin.Int.intBits i))
  | _, _ => .bad

/-! ### terms -/
inductive Tg where
  | one (i : Nat)
  | tup (is : List Nat)
  deriving DecidableEq
inductive Itk where
  | plain | range | enumerate | zip | reversed
  deriving DecidableEq
inductive Tm where
  | var (i : Nat)
  | con (d : D)
  | glob (g : Nat)
  | nil
  | cons (a b : Tm)
  | tup (a : Tm)
  | lst (a : Tm)
  | rep (as b : Tm)
  | bin (op : Operator) (a b : Tm)
  | un (op : UnaryOp) (a : Tm)
  | not (a : Tm)
  | bop (isAnd : Bool) (a b : Tm)
  | ite (c a b : Tm)
  | cmp (op : CmpOp) (a b : Tm)
  | chain (op op' : CmpOp) (a b c : Tm)
  | call (f : Nat) (as : Tm) (j : Nat)
  | bi (f : Bi) (as : Tm)
  | isi (ty : Ty) (a : Tm)
  | ix (a i : Tm)
  | comp (tg : Tg) (k : Itk) (it : Tm) (c : Tm) (e : Tm)
  | gen (u : Bool) (tg : Tg) (k : Itk) (it : Tm) (e : Tm)
  | comp2 (tg : Tg) (k : Itk) (it : Tm) (c : Tm) (tg1 : Tg) (k1 : Itk) (it1 : Tm) (c1 : Tm) (e : Tm)

abbrev Env := List (Option D)
def envGet (δ : Env) (i : Nat) : R D := match δ[i]? with
  | some (some d) => .ok d
  | _ => .bad
def setAll : List Nat → List D → Env → Option Env
  | [], [], δ => some δ
  | i :: is, d :: ds, δ => setAll is ds (δ.set i (some d))
  | _, _, _ => none
def bindTg (tg : Tg) (d : D) (δ : Env) : R Env := match tg with
  | .one i => .ok (δ.set i (some d))
  | .tup is => match d with
    | .tuple ds => match setAll is ds δ with | some δ' => .ok δ' | none => .bad
    | _ => .bad

def rangeL (lo : Int) (n : Nat) : List D := (List.range n).map fun i : Nat => .int (lo + (i : Int))
def enumL : Nat → List D → List D
  | _, [] => []
  | k, x :: r => .tuple [.int k, x] :: enumL (k + 1) r
def zipL : List D → List D → List D
  | x :: r, y :: s => .tuple [x, y] :: zipL r s
  | _, _ => []
def seq? : D → Option (List D)
  | .list xs => some xs
  | .tuple xs => some xs
  | _ => none
def big62 (i : Int) : Bool := decide (-4611686018427387904 ≤ i) && decide (i < 4611686018427387904)
/-- what an iterable gives, from its arguments -/
def iterate : Itk → List D → R (List D)
  | .plain, [.list xs] => .ok xs
  | .plain, [.tuple xs] => .ok xs
  | .range, [.int n] => if big62 n && decide (n ≤ 16777216) then .ok (rangeL 0 n.toNat) else .bad
  | .range, [.int a, .int b] => if big62 a && big62 b && decide (b - a ≤ 16777216) then .ok (rangeL a (b - a).toNat) else .bad
  | .enumerate, [a] => match seq? a with | some xs => .ok (enumL 0 xs) | none => .bad
  | .zip, [a, b] => match seq? a, seq? b with | some xs, some ys => .ok (zipL xs ys) | _, _ => .bad
  | .reversed, [a] => match seq? a with | some xs => .ok xs.reverse | none => .bad
  | _, _ => .bad

/-- the kept elements, one after the other -/
def compL (tg : Tg) (c : Env → R Bool) (e : Env → R D) (δ : Env) : List D → R (List D)
  | [] => .ok []
  | d :: r => (bindTg tg d δ).bind fun δ' => (c δ').bind fun b =>
      if b = true then (e δ').bind fun y => (compL tg c e δ r).bind fun ys => .ok (y :: ys) else compL tg c e δ r
def wipeE : List Nat → Env → Env
  | [], δ => δ
  | v :: vs, δ => (wipeE vs δ).set v none
def Tg.slots : Tg → List Nat
  | .one i => [i]
  | .tup is => is
def compL2 (tg : Tg) (c : Env → R Bool) (it1 : Env → R (List D)) (tg1 : Tg) (c1 : Env → R Bool) (e : Env → R D) (δ : Env) : List D → R (List D)
  | [] => .ok []
  | d :: r => (bindTg tg d δ).bind fun δ' => (c δ').bind fun b =>
      if b = true then (it1 δ').bind fun ds => (compL tg1 c1 e δ' ds).bind fun ys => (compL2 tg c it1 tg1 c1 e δ r).bind fun zs => .ok (ys ++ zs) else compL2 tg c it1 tg1 c1 e δ r
/-- what all, any ask of an element -/
def tbool : D → R Bool
  | .bool b => .ok b
  | .int i => .ok (i != 0)
  | _ => .bad
/-- all (u true), any (u false) -/
def gL (u : Bool) (tg : Tg) (e : Env → R Bool) (δ : Env) : List D → R Bool
  | [] => .ok u
  | d :: r => (bindTg tg d δ).bind fun δ' => (e δ').bind fun b => if b = u then gL u tg e δ r else .ok (!u)

/-- what the world of a text gives: constants by number, defs by number -/
structure Sem0 where
  glob : Nat → R D
  dflt : Nat → List D
  call : Nat → List D → R D
mutual
def ev (Z : Sem0) : Tm → Env → R D
  | .var i, δ => envGet δ i
  | .con d, _ => .ok d
  | .glob g, _ => Z.glob g
  | .nil, _ => .bad
  | .cons _ _, _ => .bad
  | .tup a, δ => (evs Z a δ).bind fun ds => .ok (.tuple ds)
  | .lst a, δ => (evs Z a δ).bind fun ds => .ok (.list ds)
  | .rep a b, δ => (evs Z a δ).bind fun ds => (ev Z b δ).bind fun y => repL ds y
  | .bin op a b, δ => (ev Z a δ).bind fun x => (ev Z b δ).bind fun y => binop op x y
  | .un op a, δ => (ev Z a δ).bind fun x => unop op x
  | .not a, δ => (ev Z a δ).bind fun x => (truth x).bind fun k => .ok (.bool (!k))
  | .bop isAnd a b, δ => (ev Z a δ).bind fun x => (truth x).bind fun k => if k = isAnd then ev Z b δ else .ok x
  | .ite c a b, δ => (ev Z c δ).bind fun x => (truth x).bind fun k => if k = true then ev Z a δ else ev Z b δ
  | .cmp op a b, δ => (ev Z a δ).bind fun x => (ev Z b δ).bind fun y => (cmpop op x y).bind fun k => .ok (.bool k)
  | .chain op op' a b c, δ => (ev Z a δ).bind fun x => (ev Z b δ).bind fun y => (cmpop op x y).bind fun k =>
      if k = true then (ev Z c δ).bind fun z => (cmpop op' y z).bind fun k' => .ok (.bool k') else .ok (.bool false)
  | .call f as j, δ => (evs Z as δ).bind fun ds => Z.call f (ds ++ (Z.dflt f).drop j)
  | .bi f as, δ => (evs Z as δ).bind fun ds => bicall f ds
  | .isi ty a, δ => (ev Z a δ).bind fun x => (isTy ty x).bind fun k => .ok (.bool k)
  | .ix a i, δ => (ev Z a δ).bind fun x => (ev Z i δ).bind fun y => index x y
  | .comp tg k it c e, δ => (evs Z it δ).bind fun as => (iterate k as).bind fun ds =>
      (compL tg (fun δ' => ((ev Z c δ').bind truth).calm) (fun δ' => (ev Z e δ').calm) δ ds).bind fun ys => .ok (.list ys)
  | .comp2 tg k it c tg1 k1 it1 c1 e, δ => (evs Z it δ).bind fun as => (iterate k as).bind fun ds =>
      (compL2 tg (fun δ' => ((ev Z c δ').bind truth).calm) (fun δ' => ((evs Z it1 δ').bind (iterate k1)).calm) tg1 (fun δ' => ((ev Z c1 δ').bind truth).calm) (fun δ' => (ev Z e δ').calm) (wipeE tg1.slots δ) ds).bind fun ys => if ys.length ≤ LN then .ok (.list ys) else .bad
  | .gen u tg k it e, δ => (evs Z it δ).bind fun as => (iterate k as).bind fun ds => (gL u tg (fun δ' => ((ev Z e δ').bind tbool).calm) δ ds).bind fun b => .ok (.bool b)
def evs (Z : Sem0) : Tm → Env → R (List D)
  | .nil, _ => .ok []
  | .cons a b, δ => (ev Z a δ).bind fun x => (evs Z b δ).bind fun xs => .ok (x :: xs)
  | _, _ => .bad
end

/-! ### statements -/
inductive Out where
  | nx (δ : Env) | rt (d : D) | bk (δ : Env) | ct (δ : Env)
inductive Sm where
  | nil
  | seq (a b : Sm)
  | pass
  | set (i : Nat) (e : Tm)
  | fresh (i : Nat) (e : Tm)
  | sets (is : List Nat) (e : Tm)
  | pars (is : List Nat) (e : Tm)
  | drop (e : Tm)
  | aug (i : Nat) (op : Operator) (e : Tm)
  | app (i : Nat) (e : Tm)
  | put (i : Nat) (k e : Tm)
  | ite (c : Tm) (a b : Sm)
  | loop (tg : Tg) (k : Itk) (it : Tm) (b : Sm)
  | while (c : Tm) (b : Sm)
  | ret (e : Tm)
  | brk
  | cont
  | raise (c : Nat)
def loopL (tg : Tg) (b : Env → R Out) : List D → Env → R Out
  | [], δ => .ok (.nx δ)
  | d :: r, δ => (bindTg tg d δ).bind fun δ' => (b δ').bind fun o => match o with
    | .nx δ2 => loopL tg b r δ2
    | .ct δ2 => loopL tg b r δ2
    | .bk δ2 => .ok (.nx δ2)
    | .rt d => .ok (.rt d)
def whileL (c : Env → R Bool) (b : Env → R Out) : Nat → Env → R Out
  | 0, _ => .bad
  | n + 1, δ => (c δ).bind fun k => if k = true then (b δ).bind fun o => match o with
    | .nx δ2 => whileL c b n δ2
    | .ct δ2 => whileL c b n δ2
    | .bk δ2 => .ok (.nx δ2)
    | .rt d => .ok (.rt d)
    else .ok (.nx δ)
def putAt : D → D → D → R D
  | .list xs, .int i, v => match place? xs.length i with
    | some j => .ok (.list (xs.set j v))
    | none => .bad
  | _, _, _ => .bad
def WN : Nat := 100000
def augop : Operator → D → D → R D
  | .Add, .int i, .int j => .ok (.int (i + j))
  | .Sub, .int i, .int j => .ok (.int (i - j))
  | .Mult, .int i, .int j => if smallI i || smallI j then .ok (.int (i * j)) else .bad
  | .LShift, .int i, .int j => if decide (0 ≤ j) && decide (j ≤ 1000000) && decide (i.natAbs < 18446744073709551616) then .ok (.int (i * 2 ^ j.toNat)) else .bad
  | .RShift, .int i, .int j => if decide (0 ≤ j) then .ok (.int (i / 2 ^ j.toNat)) else .bad
  | .BitAnd, .int i, .int j => .ok (.int (Builtin.bitAnd i j))
  | .BitOr, .int i, .int j => .ok (.int (Builtin.bitOr i j))
  | .BitXor, .int i, .int j => .ok (.int (Builtin.bitXor i j))
  | .Add, .str a, .str b => if a.length + b.length ≤ LN then .ok (.str (a ++ b)) else .bad
  | _, _, _ => .bad
def ex (Z : Sem0) : Sm → Env → R Out
  | .nil, δ => .ok (.nx δ)
  | .seq a b, δ => (ex Z a δ).bind fun o => match o with
    | .nx δ2 => ex Z b δ2
    | o => .ok o
  | .pass, δ => .ok (.nx δ)
  | .set i e, δ => (ev Z e δ).bind fun d => .ok (.nx (δ.set i (some d)))
  | .sets is e, δ => (ev Z e δ).bind fun d => (bindTg (.tup is) d δ).bind fun δ' => .ok (.nx δ')
  | .fresh i e, δ => (ev Z e δ).bind fun d => .ok (.nx (δ.set i (some d)))
  | .pars is e, δ => (evs Z e δ).bind fun ds => match setAll is ds δ with
    | some δ' => .ok (.nx δ')
    | none => .bad
  | .drop e, δ => (ev Z e δ).bind fun _ => .ok (.nx δ)
  | .aug i op e, δ => (envGet δ i).bind fun x => (ev Z e δ).bind fun y => (augop op x y).bind fun z => .ok (.nx (δ.set i (some z)))
  | .app i e, δ => (envGet δ i).bind fun x => (ev Z e δ).bind fun y => match x with
    | .list xs => if xs.length < LN then .ok (.nx (δ.set i (some (.list (xs ++ [y]))))) else .bad
    | _ => .bad
  | .put i k e, δ => (ev Z e δ).bind fun y => (envGet δ i).bind fun x => (ev Z k δ).bind fun j => (putAt x j y).bind fun z => .ok (.nx (δ.set i (some z)))
  | .ite c a b, δ => (ev Z c δ).bind fun x => (truth x).bind fun k => if k = true then ex Z a δ else ex Z b δ
  | .loop tg k it b, δ => (evs Z it δ).bind fun as => (iterate k as).bind fun ds => loopL tg (fun δ' => ex Z b δ') ds δ
  | .while c b, δ => whileL (fun δ' => (ev Z c δ').bind truth) (fun δ' => ex Z b δ') WN δ
  | .ret e, δ => (ev Z e δ).bind fun d => .ok (.rt d)
  | .brk, δ => .ok (.bk δ)
  | .cont, δ => .ok (.ct δ)
  | .raise c, _ => .exc c

/-- a def: how many slots, its parameters' defaults, its body -/
structure Fn where
  slots : Nat
  pars : Nat
  body : Sm
def startEnv (n : Nat) (ds : List D) : Env := ds.map some ++ List.replicate (n - ds.length) none
def runFn (Z : Sem0) (f : Fn) (ds : List D) : R D :=
  if ds.length = f.pars then
    (ex Z f.body (startEnv f.slots ds)).bind fun o => match o with
      | .rt d => .ok d
      | .nx _ => .ok .none
      | _ => .bad
  else .bad
/-- calls n deep -/
def callN (glob : Nat → R D) (dflt : Nat → List D) (fns : List Fn) : Nat → Nat → List D → R D
  | 0 => fun _ _ => .bad
  | n + 1 => fun f ds => match fns[f]? with
    | some g => runFn ⟨glob, dflt, callN glob dflt fns n⟩ g ds
    | none => .bad
end EV

set_option Elab.async false
set_option linter.all false
set_option maxRecDepth 100000
set_option maxHeartbeats 1000000
/-! EvB: how values lie in the abstract heap. -/
namespace EV
open PySem PySem.Spec PyProof.Rows L2

/-- all but the tables of code objects stays -/
structure Ext (H H' : Hp) : Prop where
  keep : ∀ b o, H b = some o → (∀ ps, o ≠ .tbl ps) → H' b = some o
  dom : ∀ b, H' b = none → H b = none
theorem Ext.refl (H : Hp) : Ext H H := ⟨fun _ _ h _ => h, fun _ h => h⟩
theorem Ext.trans {H H1 H2 : Hp} (a : Ext H H1) (b : Ext H1 H2) : Ext H H2 := ⟨fun c o h n => b.keep c o (a.keep c o h n) n, fun c h => a.dom c (b.dom c h)⟩
theorem Ext.new {H : Hp} {p : Addr} {o : HO} (h : H p = none) : Ext H (upd H p o) := ⟨fun b u e _ => by
  rw [upd_ne (ne_of_none e h)]
  exact e, fun b e => by
  by_cases hb : b = p
  · rw [hb]; exact h
  · rw [upd_ne hb] at e; exact e⟩
/-- new cells may be had -/
def NewOk (N : Addr → Prop) (H : Hp) : Prop := ∀ a, H a = none → N a
theorem NewOk.ext {N : Addr → Prop} {H H' : Hp} (n : NewOk N H) (x : Ext H H') : NewOk N H' := fun a h => n a (x.dom a h)
def TabsOk (T : List Addr) (H : Hp) : Prop := ∀ P ∈ T, ∃ ps : Array Value, H P = some (.tbl ps) ∧ TriplesOk ps.toList
theorem TabsOk.new {T : List Addr} {H : Hp} {p : Addr} {o : HO} (t : TabsOk T H) (h : H p = none) : TabsOk T (upd H p o) := fun P hP => by
  obtain ⟨ps, e, k⟩ := t P hP
  exact ⟨ps, by rw [upd_ne (ne_of_none e h)]; exact e, k⟩

/-- what is a value's kind of cell: no table -/
def isData : HO → Bool
  | .lst _ => true
  | .tup _ => true
  | .dK _ => true
  | .dT _ => true
  | _ => false
theorem isData_tbl {u : HO} (h : isData u = true) : ∀ ps, u ≠ .tbl ps := fun ps e => by rw [e] at h; cases h
theorem rd_ext {H H' : Hp} {a : Addr} {u : HO} (x : Ext H H') (r : Rd H a u) (hu : isData u = true) : Rd H' a u := by
  rcases r with r | ⟨o, r⟩
  · exact .inl (x.keep a _ r (isData_tbl hu))
  · exact .inr ⟨o, x.keep a _ r fun ps z => by cases z⟩
theorem rd_ne {H : Hp} {a p : Addr} {u : HO} (r : Rd H a u) (h : H p = none) : a ≠ p := by
  rcases r with r | ⟨o, r⟩
  · exact ne_of_none r h
  · exact ne_of_none r h

/-- a list, a tuple of the written part -/
def KL (K : PySem.W.Frag) (a : Addr) (xs : List V) : Prop :=
  ∃ (o : Obj) (its : Array Value) (n : Nat), K.lookup a = some o ∧ o.cls = .type "list" ∧ o.dict = none ∧ o.data = .seq its n ∧ its.size ≤ sizeLine ∧ Vals xs its.toList
def KT (K : PySem.W.Frag) (a : Addr) (xs : List V) : Prop :=
  ∃ (o : Obj) (its : Array Value) (n : Nat), K.lookup a = some o ∧ o.cls = .type "tuple" ∧ o.data = .seq its n ∧ its.size ≤ sizeLine ∧ Vals xs its.toList
def keyD : Key → D
  | .inl i => .int i
  | .inr s => .str s
def keyT (ks : List Key) : D := .tuple (ks.map keyD)

mutual
/-- v is the datum d, by cells of N -/
inductive Rep (K : PySem.W.Frag) (N : Addr → Prop) (H : Hp) : V → D → Prop
  | non : Rep K N H .non .none
  | bl (b : Bool) : Rep K N H (.bl b) (.bool b)
  | int (i : Int) : Rep K N H (.int i) (.int i)
  | str (x : Str) : Rep K N H (.str x) (.str x)
  | lst {a : Addr} {xs : List V} {ds : List D} : (Rd H a (.lst xs) ∧ N a) ∨ KL K a xs → xs.length ≤ LN → Reps K N H xs ds → Rep K N H (.ref a) (.list ds)
  | tup {a : Addr} {xs : List V} {ds : List D} : (Rd H a (.tup xs) ∧ N a) ∨ KT K a xs → xs.length ≤ LN → Reps K N H xs ds → Rep K N H (.ref a) (.tuple ds)
  | dK {a : Addr} {kvs : List (Key × V)} {ds : List D} : Rd H a (.dK kvs) → N a → kvs.length ≤ LN → Reps K N H (kvs.map (·.2)) ds → Rep K N H (.ref a) (.dict ((kvs.map fun p => keyD p.1).zip ds))
  | dT {a : Addr} {kvs : List (List Key × V)} {ds : List D} : Rd H a (.dT kvs) → N a → kvs.length ≤ LN → Reps K N H (kvs.map (·.2)) ds → Rep K N H (.ref a) (.dict ((kvs.map fun p => keyT p.1).zip ds))
inductive Reps (K : PySem.W.Frag) (N : Addr → Prop) (H : Hp) : List V → List D → Prop
  | nil : Reps K N H [] []
  | cons {v : V} {vs : List V} {d : D} {ds : List D} : Rep K N H v d → Reps K N H vs ds → Reps K N H (v :: vs) (d :: ds)
end
section
variable {K : PySem.W.Frag} {N N' : Addr → Prop} {H H' : Hp}
theorem Rep.to (h : ∀ a u, N a → isData u = true → Rd H a u → Rd H' a u ∧ N' a) {v : V} {d : D} (r : Rep K N H v d) : Rep K N' H' v d := by
  refine Rep.rec (K := K) (N := N) (H := H) (motive_1 := fun v d _ => Rep K N' H' v d) (motive_2 := fun vs ds _ => Reps K N' H' vs ds) .non .bl .int .str ?_ ?_ ?_ ?_ .nil ?_ r
  · intro a xs ds hq hl _ ih
    refine .lst (hq.elim (fun q => .inl (h a _ q.2 rfl q.1)) .inr) hl ih
  · intro a xs ds hq hl _ ih
    refine .tup (hq.elim (fun q => .inl (h a _ q.2 rfl q.1)) .inr) hl ih
  · intro a kvs ds hq hn hl _ ih
    exact .dK (h a _ hn rfl hq).1 (h a _ hn rfl hq).2 hl ih
  · intro a kvs ds hq hn hl _ ih
    exact .dT (h a _ hn rfl hq).1 (h a _ hn rfl hq).2 hl ih
  · intro v vs d ds _ _ i1 i2
    exact .cons i1 i2
theorem Reps.to (h : ∀ a u, N a → isData u = true → Rd H a u → Rd H' a u ∧ N' a) : ∀ {vs : List V} {ds : List D}, Reps K N H vs ds → Reps K N' H' vs ds
  | _, _, .nil => .nil
  | _, _, .cons a b => .cons (a.to h) (Reps.to h b)
theorem Rep.ext (x : Ext H H') {v : V} {d : D} (r : Rep K N H v d) : Rep K N H' v d := r.to fun _ _ n u q => ⟨rd_ext x q u, n⟩
theorem Reps.ext (x : Ext H H') {vs : List V} {ds : List D} (r : Reps K N H vs ds) : Reps K N H' vs ds := r.to fun _ _ n u q => ⟨rd_ext x q u, n⟩
theorem Rep.mono (x : ∀ a, N a → N' a) {v : V} {d : D} (r : Rep K N H v d) : Rep K N' H v d := r.to fun _ _ n _ q => ⟨q, x _ n⟩
theorem Reps.mono (x : ∀ a, N a → N' a) {vs : List V} {ds : List D} (r : Reps K N H vs ds) : Reps K N' H vs ds := r.to fun _ _ n _ q => ⟨q, x _ n⟩
theorem Reps.length : ∀ {vs : List V} {ds : List D}, Reps K N H vs ds → vs.length = ds.length
  | _, _, .nil => rfl
  | _, _, .cons _ t => congrArg (· + 1) (Reps.length t)
theorem Reps.get : ∀ {vs : List V} {ds : List D} {i : Nat} {d : D}, Reps K N H vs ds → ds[i]? = some d → ∃ v, vs[i]? = some v ∧ Rep K N H v d
  | _, _, _, _, .nil, e => by simp at e
  | _, _, 0, _, .cons r _, e => by simp at e; subst e; exact ⟨_, rfl, r⟩
  | _, _, i + 1, d, .cons _ t, e => by
    obtain ⟨v, h1, h2⟩ := Reps.get (i := i) (d := d) t (by simpa using e)
    exact ⟨v, by simpa using h1, h2⟩
theorem Reps.getv : ∀ {vs : List V} {ds : List D} {i : Nat} {v : V}, Reps K N H vs ds → vs[i]? = some v → ∃ d, ds[i]? = some d ∧ Rep K N H v d
  | _, _, _, _, .nil, e => by simp at e
  | _, _, 0, _, .cons r _, e => by simp at e; subst e; exact ⟨_, rfl, r⟩
  | _, _, i + 1, v, .cons _ t, e => by
    obtain ⟨d, h1, h2⟩ := Reps.getv (i := i) (v := v) t (by simpa using e)
    exact ⟨d, by simpa using h1, h2⟩
theorem Reps.app : ∀ {vs ws : List V} {ds es : List D}, Reps K N H vs ds → Reps K N H ws es → Reps K N H (vs ++ ws) (ds ++ es)
  | _, _, _, _, .nil, s => s
  | _, _, _, _, .cons r t, s => .cons r (Reps.app t s)
theorem Reps.set {v : V} {d : D} (r : Rep K N H v d) : ∀ {vs : List V} {ds : List D} (i : Nat), Reps K N H vs ds → Reps K N H (vs.set i v) (ds.set i d)
  | _, _, _, .nil => .nil
  | _, _, 0, .cons _ t => .cons r t
  | _, _, i + 1, .cons q t => .cons q (Reps.set r i t)
theorem Reps.take : ∀ {vs : List V} {ds : List D} (n : Nat), Reps K N H vs ds → Reps K N H (vs.take n) (ds.take n)
  | _, _, 0, _ => .nil
  | _, _, _ + 1, .nil => .nil
  | _, _, n + 1, .cons r t => .cons r (Reps.take n t)
theorem Reps.drop : ∀ {vs : List V} {ds : List D} (n : Nat), Reps K N H vs ds → Reps K N H (vs.drop n) (ds.drop n)
  | _, _, 0, r => r
  | _, _, _ + 1, .nil => .nil
  | _, _, n + 1, .cons _ t => Reps.drop n t
theorem Reps.rev : ∀ {vs : List V} {ds : List D}, Reps K N H vs ds → Reps K N H vs.reverse ds.reverse
  | _, _, .nil => .nil
  | _, _, .cons r t => by
    rw [List.reverse_cons, List.reverse_cons]
    exact (Reps.rev t).app (.cons r .nil)
theorem Reps.rep {vs : List V} {ds : List D} (r : Reps K N H vs ds) : ∀ n : Nat, Reps K N H (List.replicate n vs).flatten (List.replicate n ds).flatten
  | 0 => .nil
  | n + 1 => by
    rw [List.replicate_succ, List.replicate_succ, List.flatten_cons, List.flatten_cons]
    exact r.app (Reps.rep r n)
/-- the list's cell -/
theorem Rep.sql {a : Addr} {xs : List V} (q : (Rd H a (.lst xs) ∧ N a) ∨ KL K a xs) : SqL K H a xs := q.elim (fun q => .inl q.1) .inr
theorem Rep.sqt {a : Addr} {xs : List V} (q : (Rd H a (.tup xs) ∧ N a) ∨ KT K a xs) : SqT K H a xs := q.elim (fun q => .inl q.1) .inr
end
/-- a value whose own cell may be any, its parts in N -/
inductive Repc (K : PySem.W.Frag) (N : Addr → Prop) (H : Hp) : V → D → Prop
  | of {v : V} {d : D} : Rep K N H v d → Repc K N H v d
  | lst {a : Addr} {xs : List V} {ds : List D} : H a = some (.lst xs) → xs.length ≤ LN → Reps K N H xs ds → Repc K N H (.ref a) (.list ds)
  | dK {a : Addr} {kvs : List (Key × V)} {ds : List D} : H a = some (.dK kvs) → kvs.length ≤ LN → Reps K N H (kvs.map (·.2)) ds → Repc K N H (.ref a) (.dict ((kvs.map fun p => keyD p.1).zip ds))
  | dT {a : Addr} {kvs : List (List Key × V)} {ds : List D} : H a = some (.dT kvs) → kvs.length ≤ LN → Reps K N H (kvs.map (·.2)) ds → Repc K N H (.ref a) (.dict ((kvs.map fun p => keyT p.1).zip ds))
section
variable {K : PySem.W.Frag} {N N' : Addr → Prop} {H H' : Hp}
theorem Repc.ext (x : Ext H H') {v : V} {d : D} (r : Repc K N H v d) : Repc K N H' v d := by
  cases r with
  | of r => exact .of (r.ext x)
  | lst h l r => exact .lst (x.keep _ _ h fun _ z => by cases z) l (r.ext x)
  | dK h l r => exact .dK (x.keep _ _ h fun _ z => by cases z) l (r.ext x)
  | dT h l r => exact .dT (x.keep _ _ h fun _ z => by cases z) l (r.ext x)
theorem Repc.mono (x : ∀ a, N a → N' a) {v : V} {d : D} (r : Repc K N H v d) : Repc K N' H v d := by
  cases r with
  | of r => exact .of (r.mono x)
  | lst h l r => exact .lst h l (r.mono x)
  | dK h l r => exact .dK h l (r.mono x)
  | dT h l r => exact .dT h l (r.mono x)
/-- the whole, by any cells -/
theorem Repc.top {v : V} {d : D} (r : Repc K N H v d) : Rep K (fun _ => True) H v d := by
  cases r with
  | of r => exact r.mono fun _ _ => trivial
  | lst h l r => exact .lst (.inl ⟨.inl h, trivial⟩) l (r.mono fun _ _ => trivial)
  | dK h l r => exact .dK (.inl h) trivial l (r.mono fun _ _ => trivial)
  | dT h l r => exact .dT (.inl h) trivial l (r.mono fun _ _ => trivial)
theorem Repc.list {v : V} {ds : List D} (r : Repc K N H v (.list ds)) : ∃ a xs, v = .ref a ∧ SqL K H a xs ∧ xs.length ≤ LN ∧ Reps K N H xs ds := by
  cases r with
  | of r => cases r with | lst q l r => exact ⟨_, _, rfl, Rep.sql q, l, r⟩
  | lst h l r => exact ⟨_, _, rfl, .inl (.inl h), l, r⟩
theorem Repc.tuple {v : V} {ds : List D} (r : Repc K N H v (.tuple ds)) : ∃ a xs, v = .ref a ∧ SqT K H a xs ∧ xs.length ≤ LN ∧ Reps K N H xs ds ∧ Rep K N H (.ref a) (.tuple ds) := by
  cases r with
  | of r => cases r with | tup q l r => exact ⟨_, _, rfl, Rep.sqt q, l, r, .tup q l r⟩
theorem Repc.int {v : V} {i : Int} (r : Repc K N H v (.int i)) : v = .int i := by
  cases r with | of r => cases r; rfl
theorem Repc.bool {v : V} {b : Bool} (r : Repc K N H v (.bool b)) : v = .bl b := by
  cases r with | of r => cases r; rfl
theorem Repc.str {v : V} {b : Str} (r : Repc K N H v (.str b)) : v = .str b := by
  cases r with | of r => cases r; rfl
theorem Repc.none {v : V} (r : Repc K N H v .none) : v = .non := by
  cases r with | of r => cases r; rfl
theorem LN_line : LN = sizeLine := by rw [sizeLine_eq]
end
/-! for HandS's == -/
mutual
theorem Rep.dp {K : PySem.W.Frag} {N : Addr → Prop} {H : Hp} : ∀ {d : D} {v : V}, Rep K N H v d → d.canLay0 = true → Dp K H v d
  | .none, _, .non, _ => .non
  | .bool _, _, .bl b, _ => .bl b
  | .int _, _, .int i, _ => .int i
  | .str _, _, .str x, _ => .str x
  | .list ds, _, .lst q l r, h => .lst (Rep.sql q) (Reps.dp r (by simpa only [PyData.canLay0] using h))
  | .tuple ds, _, .tup q l r, h => .tup (Rep.sqt q) (Reps.dp r (by simpa only [PyData.canLay0] using h))
  | .dict _, _, _, h => by simp [PyData.canLay0] at h
theorem Reps.dp {K : PySem.W.Frag} {N : Addr → Prop} {H : Hp} : ∀ {ds : List D} {vs : List V}, Reps K N H vs ds → PyData.canLayAll0 ds = true → DpAll K H vs ds
  | [], _, .nil, _ => .nil
  | d :: ds, _, .cons a b, h => by
    have h' : (d.canLay0 && PyData.canLayAll0 ds) = true := by simpa only [PyData.canLayAll0] using h
    rw [Bool.and_eq_true] at h'
    exact .cons (Rep.dp a h'.1) (Reps.dp b h'.2)
end
end EV

set_option Elab.async false
set_option linter.all false
set_option maxRecDepth 100000
set_option maxHeartbeats 1000000
/-! EvC: the rules of expressions, over the pure values. -/
namespace EV
open PySem PySem.Spec PyProof.Rows L2

theorem pe_imp {X : Cx} {e : Expr} {t t' : TE} (h : PE X e t) (w : ∀ σ H Q, t' σ H Q → t σ H Q) : PE X e t' := ⟨fun pins s σ H Q I q => h.run pins s σ H Q I (w σ H Q q)⟩
theorem pt_imp {X : Cx} {e : Expr} {t t' : TT} (h : PT X e t) (w : ∀ σ H Q, t' σ H Q → t σ H Q) : PT X e t' := ⟨fun pins s σ H Q I q => h.run pins s σ H Q I (w σ H Q q)⟩
theorem pa_imp {X : Cx} {e : List Expr} {t t' : TA} (h : PA X e t) (w : ∀ σ H Q, t' σ H Q → t σ H Q) : PA X e t' := ⟨fun pos pins s σ H Q I q => h.run pos pins s σ H Q I (w σ H Q q)⟩

/-- what the world of a text is: tables, exception classes by number, the wish about exceptions -/
structure Wd where
  K : PySem.W.Frag
  T : List Addr
  cls : Nat → Value
section
variable (G : Wd) (W : WX) (σ : L2.St)
/-- a result's end, from H on -/
def Fin {α : Type} (r : R α) (H : Hp) (k : α → Hp → Prop) : Prop := match r with
  | .ok a => ∀ H', Ext H H' → TabsOk G.T H' → k a H'
  | .exc c => ∀ H', Ext H H' → TabsOk G.T H' → W (G.cls c) none σ H'
  | .bad => False
end
section
variable {G : Wd} {W : WX} {σ : L2.St} {α β : Type} {H H1 : Hp}
theorem Fin.ext {r : R α} {k : α → Hp → Prop} (h : Fin G W σ r H k) (x : Ext H H1) : Fin G W σ r H1 k := by
  cases r with
  | ok a => exact fun H' y t => h H' (x.trans y) t
  | exc c => exact fun H' y t => h H' (x.trans y) t
  | bad => exact h
theorem Fin.bind {r : R α} {f : α → R β} {k : β → Hp → Prop} {k' : α → Hp → Prop} (h : Fin G W σ (r.bind f) H k) (hf : ∀ a H1, Ext H H1 → TabsOk G.T H1 → Fin G W σ (f a) H1 k → k' a H1) : Fin G W σ r H k' := by
  cases r with
  | ok a => exact fun H' y t => hf a H' y t (Fin.ext (r := f a) h y)
  | exc c => exact h
  | bad => exact h
theorem Fin.bindE {r : R α} {f : α → R β} {k : β → Hp → Prop} {k' : α → Hp → Prop} (h : Fin G W σ (r.bind f) H k) (hf : ∀ a H1, r = .ok a → Ext H H1 → TabsOk G.T H1 → Fin G W σ (f a) H1 k → k' a H1) : Fin G W σ r H k' := by
  cases r with
  | ok a => exact fun H' y t => hf a H' rfl y t (Fin.ext (r := f a) h y)
  | exc c => exact h
  | bad => exact h
theorem Fin.imp {r : R α} {k k' : α → Hp → Prop} (h : Fin G W σ r H k) (hf : ∀ a H1, Ext H H1 → TabsOk G.T H1 → k a H1 → k' a H1) : Fin G W σ r H k' := by
  cases r with
  | ok a => exact fun H' y t => hf a H' y t (h H' y t)
  | exc c => exact h
  | bad => exact h
theorem Fin.ok {a : α} {k : α → Hp → Prop} (h : Fin G W σ (R.ok a) H k) (t : TabsOk G.T H) : k a H := h H (Ext.refl H) t
end

/-- fully in N, or but for its own cell -/
def RepF (fl : Bool) (K : PySem.W.Frag) (N : Addr → Prop) (H : Hp) (v : V) (d : D) : Prop := match fl with
  | true => Rep K N H v d
  | false => Repc K N H v d
theorem RepF.c {fl : Bool} {K : PySem.W.Frag} {N : Addr → Prop} {H : Hp} {v : V} {d : D} (r : RepF fl K N H v d) : Repc K N H v d := by
  cases fl with
  | true => exact .of r
  | false => exact r
theorem RepF.of {fl : Bool} {K : PySem.W.Frag} {N : Addr → Prop} {H : Hp} {v : V} {d : D} (r : Rep K N H v d) : RepF fl K N H v d := by
  cases fl with
  | true => exact r
  | false => exact Repc.of r
theorem RepF.ext {fl : Bool} {K : PySem.W.Frag} {N : Addr → Prop} {H H' : Hp} {v : V} {d : D} (x : Ext H H') (r : RepF fl K N H v d) : RepF fl K N H' v d := by
  cases fl with
  | true => exact Rep.ext x r
  | false => exact Repc.ext x r
abbrev RepsF (fl : Bool) (K : PySem.W.Frag) (N : Addr → Prop) (H : Hp) : List V → List D → Prop := Paired (RepF fl K N H)
theorem repsF_t {K : PySem.W.Frag} {N : Addr → Prop} {H : Hp} : ∀ {vs : List V} {ds : List D}, RepsF true K N H vs ds → Reps K N H vs ds
  | _, _, .nil => .nil
  | _, _, .cons a b => .cons a (repsF_t b)
/-- slots and the pure environment; B: slots whose values are fully in N -/
def EnvR (K : PySem.W.Frag) (N : Addr → Prop) (B : Nat → Prop) (H : Hp) (σ : L2.St) (δ : Env) : Prop :=
  ∀ (i : Nat) (d : D), δ[i]? = some (some d) → ∃ v, σ[i]? = some (some v) ∧ Repc K N H v d ∧ (B i → Rep K N H v d)
theorem EnvR.ext {K : PySem.W.Frag} {N : Addr → Prop} {B : Nat → Prop} {H H' : Hp} {σ : L2.St} {δ : Env} (e : EnvR K N B H σ δ) (x : Ext H H') : EnvR K N B H' σ δ := fun i d h => by
  obtain ⟨v, h1, h2, h3⟩ := e i d h
  exact ⟨v, h1, h2.ext x, fun b => (h3 b).ext x⟩
theorem EnvR.sub {K : PySem.W.Frag} {N : Addr → Prop} {B B' : Nat → Prop} {H : Hp} {σ : L2.St} {δ : Env} (e : EnvR K N B H σ δ) (h : ∀ i, B' i → B i) : EnvR K N B' H σ δ := fun i d q => by
  obtain ⟨v, h1, h2, h3⟩ := e i d q
  exact ⟨v, h1, h2, fun b => h3 (h i b)⟩

section
variable (G : Wd) (W : WX)
/-- the state at which an expression is evaluated -/
structure At (A : List Nat) (N : Addr → Prop) (σ : L2.St) (H : Hp) (δ : Env) : Prop where
  new : NewOk N H
  tabs : TabsOk G.T H
  env : EnvR G.K N (fun i => i ∈ A) H σ δ
  len : σ.length = δ.length
/-- the reading of an expression that is the pure f -/
def rdE (fl : Bool) (A : List Nat) (f : Env → R D) : TE := fun σ H Q => ∃ N δ, At G A N σ H δ ∧ Fin G W σ (f δ) H fun d H' => ∀ v, RepF fl G.K N H' v d → Q v H'
def rdT (A : List Nat) (f : Env → R Bool) : TT := fun σ H Q => ∃ N δ, At G A N σ H δ ∧ Fin G W σ (f δ) H fun b H' => Q b H'
def rdA (fl : Bool) (A : List Nat) (f : Env → R (List D)) : TA := fun σ H Q => ∃ N δ, At G A N σ H δ ∧ Fin G W σ (f δ) H fun ds H' => ∀ vs, RepsF fl G.K N H' vs ds → Q vs H'
end
section
variable {G : Wd} {W : WX} {A A' : List Nat} {N : Addr → Prop} {σ : L2.St} {H H' : Hp} {δ : Env}
theorem At.ext (a : At G A N σ H δ) (x : Ext H H') (t : TabsOk G.T H') : At G A N σ H' δ := ⟨a.new.ext x, t, a.env.ext x, a.len⟩
theorem At.sub (a : At G A N σ H δ) (h : ∀ i, i ∈ A' → i ∈ A) : At G A' N σ H δ := ⟨a.new, a.tabs, a.env.sub h, a.len⟩
theorem At.l {B : List Nat} (a : At G (A ++ B) N σ H δ) : At G A N σ H δ := a.sub fun i h => List.mem_append_left _ h
theorem At.r {B : List Nat} (a : At G (A ++ B) N σ H δ) : At G B N σ H δ := a.sub fun i h => List.mem_append_right _ h
end

section
variable {X : Cx} {G : Wd} {W : WX} {fl : Bool} {A B C : List Nat} {f fa fb fc : Env → R D} {e a b c : Expr} {pos : Pos}
variable (hK : X.K = G.K)
/-! ### names, constants -/
theorem j_var {i : Nat} {x : Str} (hN : X.N[i]? = some x) (hv : Vis X.env.scope x) (hd : (x == ("__debug__" : Str)) = false) (hcd : (x == ("__classdict__" : Str)) = false) :
    PE X (.Name x pos) (rdE G W fl (if fl = true then [i] else []) fun δ => envGet δ i) := by
  refine pe_imp (pe_var hN hv hd hcd) fun σ H Q h => ?_
  obtain ⟨N, δ, at_, q⟩ := h
  unfold envGet at q
  dsimp only at q
  split at q
  · rename_i d hd'
    obtain ⟨v, h1, h2, h3⟩ := at_.env i d hd'
    refine ⟨v, h1, q.ok at_.tabs v ?_⟩
    cases fl with
    | true => exact h3 (by simp)
    | false => exact h2
  · exact q.elim
theorem j_lit {t : TE} {v : V} {d : D} (h : PE X e t) (ht : ∀ σ H Q, Q v H → t σ H Q) (r : ∀ N H, Rep G.K N H v d) : PE X e (rdE G W fl A fun _ => .ok d) := by
  refine pe_imp h fun σ H Q q => ?_
  obtain ⟨N, δ, at_, q⟩ := q
  exact ht σ H Q (q.ok at_.tabs v (RepF.of (r N H)))
/-! ### arguments -/
theorem j_nil : PA X [] (rdA G W fl A fun _ => .ok []) := by
  refine pa_imp pa_nil fun σ H Q h => ?_
  obtain ⟨N, δ, at_, q⟩ := h
  exact q.ok at_.tabs [] .nil
theorem j_cons {es : List Expr} {fr : Env → R (List D)} (ha : PE X a (rdE G W fl A fa)) (hr : PA X es (rdA G W fl B fr)) (hs : starEach (a :: es) X.env = (false, eval a X.env) :: starEach es X.env) :
    PA X (a :: es) (rdA G W fl (A ++ B) fun δ => (fa δ).bind fun x => (fr δ).bind fun xs => .ok (x :: xs)) := by
  refine pa_imp (pa_cons ha hr hs) fun σ H Q h => ?_
  obtain ⟨N, δ, at_, q⟩ := h
  refine ⟨N, δ, at_.l, q.bind fun x H1 x1 t1 q1 v rv => ?_⟩
  refine ⟨N, δ, at_.r.ext x1 t1, q1.bind fun xs H2 x2 t2 q2 vs rvs => ?_⟩
  exact q2.ok t2 (v :: vs) (.cons (rv.ext x2) rvs)
/-! ### displays -/
theorem newTup {N : Addr → Prop} {p : Addr} {xs : List V} {ds : List D} {H : Hp} {K : PySem.W.Frag} (n : NewOk N H) (hp : H p = none) (hz : xs.length ≤ LN) (r : Reps K N H xs ds) : Rep K N (upd H p (.tup xs)) (.ref p) (.tuple ds) :=
  .tup (.inl ⟨.inl upd_same, n p hp⟩) hz (r.ext (Ext.new hp))
theorem newLst {N : Addr → Prop} {p : Addr} {xs : List V} {ds : List D} {H : Hp} {K : PySem.W.Frag} (n : NewOk N H) (hp : H p = none) (hz : xs.length ≤ LN) (r : Reps K N H xs ds) : Rep K N (upd H p (.lst xs)) (.ref p) (.list ds) :=
  .lst (.inl ⟨.inl upd_same, n p hp⟩) hz (r.ext (Ext.new hp))
theorem paired_len {α β : Type} {F : α → β → Prop} {xs : List α} {ys : List β} (h : Paired F xs ys) : xs.length = ys.length := Paired.length h
theorem j_tup {es : List Expr} {k : Nat} {fr : Env → R (List D)} (hr : PA X es (rdA G W true A fr)) (hl : ∀ δ ds, fr δ = .ok ds → ds.length ≤ 1000) : PE X (.Tuple es k pos) (rdE G W fl A fun δ => (fr δ).bind fun ds => .ok (.tuple ds)) := by
  refine pe_imp (pe_tup hr) fun σ H Q h => ?_
  obtain ⟨N, δ, at_, q⟩ := h
  refine ⟨N, δ, at_, Fin.bindE q fun ds H1 e x1 t1 q1 vs rvs => ?_⟩
  have hz : vs.length ≤ 1000 := by rw [paired_len rvs]; exact hl δ ds e
  refine ⟨by rw [sizeLine_eq]; omega, fun p hp => ?_⟩
  exact (q1.ext (Ext.new hp)).ok (t1.new hp) (.ref p) (RepF.of (newTup (at_.new.ext x1) hp (by show _ ≤ 16777216; omega) (repsF_t rvs)))
theorem j_lst {es : List Expr} {fr : Env → R (List D)} (hr : PA X es (rdA G W true A fr)) (hl : ∀ δ ds, fr δ = .ok ds → ds.length ≤ 1000) : PE X (.List es pos) (rdE G W fl A fun δ => (fr δ).bind fun ds => .ok (.list ds)) := by
  refine pe_imp (pe_lst hr) fun σ H Q h => ?_
  obtain ⟨N, δ, at_, q⟩ := h
  refine ⟨N, δ, at_, Fin.bindE q fun ds H1 e x1 t1 q1 vs rvs => ?_⟩
  have hz : vs.length ≤ 1000 := by rw [paired_len rvs]; exact hl δ ds e
  refine ⟨by rw [sizeLine_eq]; omega, fun p hp => ?_⟩
  exact (q1.ext (Ext.new hp)).ok (t1.new hp) (.ref p) (RepF.of (newLst (at_.new.ext x1) hp (by show _ ≤ 16777216; omega) (repsF_t rvs)))
end
end EV

set_option Elab.async false
set_option linter.all false
set_option maxRecDepth 100000
set_option maxHeartbeats 1000000
/-! EvD: operators, comparisons, tests. -/
namespace EV
open PySem PySem.Spec PyProof.Rows L2

section
variable {X : Cx} {G : Wd}
/-- a value made by an operation: the heap may have grown -/
def Made (G : Wd) (N : Addr → Prop) (H : Hp) (d : D) (Q : VK) : Prop := ∀ v H', Ext H H' → TabsOk G.T H' → Rep G.K N H' v d → Q v H'
theorem Made.int {N : Addr → Prop} {H : Hp} {i : Int} {Q : VK} (m : Made G N H (.int i) Q) (t : TabsOk G.T H) : Q (.int i) H := m _ H (Ext.refl H) t (.int i)
theorem Made.bool {N : Addr → Prop} {H : Hp} {i : Bool} {Q : VK} (m : Made G N H (.bool i) Q) (t : TabsOk G.T H) : Q (.bl i) H := m _ H (Ext.refl H) t (.bl i)
theorem Made.str {N : Addr → Prop} {H : Hp} {i : Str} {Q : VK} (m : Made G N H (.str i) Q) (t : TabsOk G.T H) : Q (.str i) H := m _ H (Ext.refl H) t (.str i)
theorem Made.tup {N : Addr → Prop} {H : Hp} {xs : List V} {ds : List D} {Q : VK} (m : Made G N H (.tuple ds) Q) (t : TabsOk G.T H) (n : NewOk N H) (hz : xs.length ≤ LN) (r : Reps G.K N H xs ds) {p : Addr} (hp : H p = none) : Q (.ref p) (upd H p (.tup xs)) :=
  m _ _ (Ext.new hp) (t.new hp) (newTup n hp hz r)
theorem Made.lst {N : Addr → Prop} {H : Hp} {xs : List V} {ds : List D} {Q : VK} (m : Made G N H (.list ds) Q) (t : TabsOk G.T H) (n : NewOk N H) (hz : xs.length ≤ LN) (r : Reps G.K N H xs ds) {p : Addr} (hp : H p = none) : Q (.ref p) (upd H p (.lst xs)) :=
  m _ _ (Ext.new hp) (t.new hp) (newLst n hp hz r)
def rBin (G : Wd) (op : Operator) : R2 := fun x y H Q => ∃ N a b d, NewOk N H ∧ TabsOk G.T H ∧ Repc G.K N H x a ∧ Repc G.K N H y b ∧ binop op a b = .ok d ∧ Made G N H d Q

theorem opI_D {op : Operator} {C : Int → Int → Prop} {g : Int → Int → Int} (rule : OpR X (binaryOp op) (rI C fun i j => .int (g i j))) (hb : ∀ i j d, intop op i j = .ok d → C i j ∧ d = .int (g i j)) (hn : ∀ a b d, binop op a b = .ok d → ∃ i j, a = .int i ∧ b = .int j) :
    OpR X (binaryOp op) (rBin G op) := by
  intro pins s σ H x y v u Q I rx ry h
  obtain ⟨N, a, b, d, n, t, ra, rb, e, m⟩ := h
  obtain ⟨i, j, rfl, rfl⟩ := hn a b d e
  obtain ⟨c, rfl⟩ := hb i j d (by simpa only [binop] using e)
  exact rule pins s σ H x y v u Q I rx ry ⟨i, j, ra.int, rb.int, c, m.int t⟩
theorem opI_D0 {op : Operator} {g : Int → Int → Int} (rule : OpR X (binaryOp op) (rI0 fun i j => .int (g i j))) (hb : ∀ i j d, intop op i j = .ok d → d = .int (g i j)) (hn : ∀ a b d, binop op a b = .ok d → ∃ i j, a = .int i ∧ b = .int j) :
    OpR X (binaryOp op) (rBin G op) := by
  intro pins s σ H x y v u Q I rx ry h
  obtain ⟨N, a, b, d, n, t, ra, rb, e, m⟩ := h
  obtain ⟨i, j, rfl, rfl⟩ := hn a b d e
  obtain rfl := hb i j d (by simpa only [binop] using e)
  exact rule pins s σ H x y v u Q I rx ry ⟨i, j, ra.int, rb.int, m.int t⟩
theorem op_catL : OpR X (binaryOp .Add) (fun x y H Q => ∃ l b xs zs, x = .ref l ∧ y = .ref b ∧ SqL X.K H l xs ∧ SqL X.K H b zs ∧ xs.length + zs.length ≤ sizeLine ∧ ∀ p, H p = none → Q (.ref p) (upd H p (.lst (xs ++ zs)))) := by
  intro pins s σ H x y v u Q I rx ry h
  obtain ⟨l, b, xs, zs, rfl, rfl, hH, hB, hz, q⟩ := h
  cases rx
  cases ry
  obtain ⟨its, r, ⟨⟨oc, od, dd, sl⟩, n, e, e1, e2, e3⟩, _⟩ := I.list hH
  obtain ⟨its2, r2, ⟨⟨oc', od', dd', sl'⟩, n2, e', e1', e2', e3'⟩, _⟩ := I.list hB
  simp only at e1 e2 e3 e1' e2' e3'
  subst e1 e2 e3 e1' e2' e3'
  have hl := r.length
  have hl2 := r2.length
  refine concat_meets ⟨_, e, rfl⟩ ⟨_, e', rfl⟩ noFill_list_add seq_list_add PySem.F.slot_list_add PySem.F.entry_list_add (PySem.F.args_list_add_2 _ _) (list_addW l b its.toArray its2.toArray n n2 none none sl sl' (by rw [List.size_toArray, List.size_toArray]; omega)) ⟨e, e', ?_⟩
  rw [show its.toArray ++ its2.toArray = (its ++ its2).toArray by simp]
  exact ⟨.ref _, _, I.lnew (t' := s.toks) (r.append r2) (by rw [List.length_append]; omega), rfl, q _ I.fresh⟩

theorem binop_int {op : Operator} {a b d : D} (h1 : op ≠ .Add) (h2 : op ≠ .Mult) (e : binop op a b = .ok d) : ∃ i j, a = .int i ∧ b = .int j := by
  unfold binop at e
  split at e
  · exact ⟨_, _, rfl, rfl⟩
  · exact absurd rfl h1
  · exact absurd rfl h1
  · exact absurd rfl h1
  · exact absurd rfl h2
  · cases e
theorem ok_inj {α : Type} {a b : α} (h : R.ok a = R.ok b) : b = a := by cases h; rfl
theorem if_ok {α : Type} {c : Bool} {a d : α} (h : (if c = true then R.ok a else R.bad) = R.ok d) : c = true ∧ d = a := by
  cases c with
  | true => exact ⟨rfl, ok_inj h⟩
  | false => cases h
theorem if_okP {α : Type} {c : Prop} [Decidable c] {a d : α} (h : (if c then R.ok a else R.bad) = R.ok d) : c ∧ d = a := by
  by_cases z : c
  · rw [if_pos z] at h; exact ⟨z, ok_inj h⟩
  · rw [if_neg z] at h; cases h
theorem smallI_of {i : Int} (h : smallI i = true) : -(2 ^ 64) < i ∧ i < 2 ^ 64 := by
  unfold smallI at h
  simp only [Bool.and_eq_true, decide_eq_true_eq] at h
  exact ⟨by omega, by omega⟩
theorem op_D (hK : X.K = G.K) : ∀ (op : Operator), OpR X (binaryOp op) (rBin G op)
  | .Sub => opI_D0 op_sub (fun i j d e => ok_inj e) fun a b d e => binop_int (by decide) (by decide) e
  | .FloorDiv => opI_D op_fdivN (fun i j d e => by
      obtain ⟨h, rfl⟩ := if_ok e
      simp only [Bool.and_eq_true, decide_eq_true_eq] at h
      exact ⟨h, rfl⟩) fun a b d e => binop_int (by decide) (by decide) e
  | .Mod => opI_D op_modN (fun i j d e => by
      obtain ⟨h, rfl⟩ := if_ok e
      simp only [decide_eq_true_eq] at h
      exact ⟨h, rfl⟩) fun a b d e => binop_int (by decide) (by decide) e
  | .Pow => opI_D op_pow (fun i j d e => by
      obtain ⟨h, rfl⟩ := if_ok e
      simp only [Bool.and_eq_true, decide_eq_true_eq] at h
      exact ⟨⟨h.1.1, h.1.2, h.2⟩, rfl⟩) fun a b d e => binop_int (by decide) (by decide) e
  | .LShift => opI_D op_shl (fun i j d e => by
      obtain ⟨h, rfl⟩ := if_ok e
      simp only [Bool.and_eq_true, decide_eq_true_eq] at h
      exact ⟨⟨h.1.1, h.1.2, h.2⟩, rfl⟩) fun a b d e => binop_int (by decide) (by decide) e
  | .RShift => opI_D op_shr (fun i j d e => by
      obtain ⟨h, rfl⟩ := if_ok e
      simp only [decide_eq_true_eq] at h
      exact ⟨h, rfl⟩) fun a b d e => binop_int (by decide) (by decide) e
  | .BitAnd => opI_D0 op_and (fun i j d e => ok_inj e) fun a b d e => binop_int (by decide) (by decide) e
  | .BitOr => opI_D0 op_or (fun i j d e => ok_inj e) fun a b d e => binop_int (by decide) (by decide) e
  | .BitXor => opI_D0 op_xor (fun i j d e => ok_inj e) fun a b d e => binop_int (by decide) (by decide) e
  | .MatMult => fun pins s σ H x y v u Q I rx ry h => by
      obtain ⟨N, a, b, d, n, t, ra, rb, e, m⟩ := h
      obtain ⟨i, j, rfl, rfl⟩ := binop_int (by decide) (by decide) e
      cases e
  | .Div => fun pins s σ H x y v u Q I rx ry h => by
      obtain ⟨N, a, b, d, n, t, ra, rb, e, m⟩ := h
      obtain ⟨i, j, rfl, rfl⟩ := binop_int (by decide) (by decide) e
      cases e
  | .Add => fun pins s σ H x y v u Q I rx ry h => by
      obtain ⟨N, a, b, d, n, t, ra, rb, e, m⟩ := h
      obtain ⟨K, T, cls⟩ := G
      obtain rfl : X.K = K := hK
      unfold binop at e
      split at e
      · obtain rfl := ok_inj e
        exact op_add pins s σ H x y v u Q I rx ry ⟨_, _, ra.int, rb.int, m.int t⟩
      · obtain ⟨h, rfl⟩ := if_okP e
        obtain ⟨p, xs, rfl, h1, h2, h3, h4⟩ := ra.tuple
        obtain ⟨p', ys, rfl, h1', h2', h3', h4'⟩ := rb.tuple
        have l1 := h3.length
        have l2 := h3'.length
        have hz : xs.length + ys.length ≤ LN := by rw [l1, l2]; exact h
        refine op_catA pins s σ H _ _ v u Q I rx ry ⟨p, p', xs, ys, rfl, rfl, h1, h1', by rw [← LN_line]; exact hz, fun z => ?_, fun _ z => ?_, fun _ _ r hp => ?_⟩
        · subst z
          cases h3
          exact m _ H (Ext.refl H) t h4'
        · subst z
          cases h3'
          refine m _ H (Ext.refl H) t ?_
          rw [List.append_nil]
          exact h4
        · exact m.tup t n (by rw [List.length_append]; exact hz) (h3.app h3') hp
      · obtain ⟨h, rfl⟩ := if_okP e
        obtain ⟨p, xs, rfl, h1, h2, h3⟩ := ra.list
        obtain ⟨p', ys, rfl, h1', h2', h3'⟩ := rb.list
        have l1 := h3.length
        have l2 := h3'.length
        have hz : xs.length + ys.length ≤ LN := by rw [l1, l2]; exact h
        exact op_catL pins s σ H _ _ v u Q I rx ry ⟨p, p', xs, ys, rfl, rfl, h1, h1', by rw [← LN_line]; exact hz, fun r hp => m.lst t n (by rw [List.length_append]; exact hz) (h3.app h3') hp⟩
      · obtain ⟨h, rfl⟩ := if_okP e
        exact op_add_str pins s σ H x y v u Q I rx ry ⟨_, _, ra.str, rb.str, by rw [← LN_line]; exact h, m.str t⟩
      · exact absurd (by assumption : Operator.Add = Operator.Mult) (by decide)
      · cases e
  | .Mult => fun pins s σ H x y v u Q I rx ry h => by
      obtain ⟨N, a, b, d, n, t, ra, rb, e, m⟩ := h
      obtain ⟨K, T, cls⟩ := G
      obtain rfl : X.K = K := hK
      unfold binop at e
      split at e
      · obtain ⟨h, rfl⟩ := if_ok e
        refine op_mul pins s σ H x y v u Q I rx ry ⟨_, _, ra.int, rb.int, ?_, m.int t⟩
        rcases Bool.or_eq_true_iff.mp h with h | h
        · exact .inl (smallI_of h)
        · exact .inr (smallI_of h)
      · exact absurd (by assumption : Operator.Mult = Operator.Add) (by decide)
      · exact absurd (by assumption : Operator.Mult = Operator.Add) (by decide)
      · exact absurd (by assumption : Operator.Mult = Operator.Add) (by decide)
      · obtain ⟨h, rfl⟩ := if_ok e
        simp only [Bool.and_eq_true, decide_eq_true_eq, Bool.not_eq_true'] at h
        obtain ⟨p, xs, rfl, h1, h2, h3, h4⟩ := ra.tuple
        have l1 := h3.length
        obtain rfl := rb.int
        refine op_repT pins s σ H _ _ v u Q I rx ry ⟨p, _, xs, rfl, rfl, h1, fun z => ?_, h.1.1.1, h.1.1.2, by rw [l1]; exact h.1.2, fun r hp => m.tup t n ?_ (h3.rep _) hp⟩
        · subst z
          cases h3
          cases h.2
        · rw [PyProof.Rows.lm_len_rep_flat]
          have h5 : xs.length ≤ 1000 := by rw [l1]; exact h.1.2
          have h6 := h.1.1.2
          exact Nat.le_trans (Nat.mul_le_mul (show _ ≤ 1000 by omega) h5) (by decide)
      · cases e
end
end EV

set_option Elab.async false
set_option linter.all false
set_option maxRecDepth 100000
set_option maxHeartbeats 1000000
/-! EvE: comparisons, tests, unary operators, items, built-in calls. -/
namespace EV
open PySem PySem.Spec PyProof.Rows L2

/-- what a context must be for the rules here -/
structure Good (X : Cx) (G : Wd) : Prop where
  k : X.K = G.K
  calm : X.calm = true
  un : X.A.units + 200 < cLine

section
variable {X : Cx} {G : Wd}
/-! ### comparisons -/
def rCmp (G : Wd) (op : CmpOp) : R2 := fun x y H Q => ∃ N a b k, Repc G.K N H x a ∧ Repc G.K N H y b ∧ cmpop op a b = .ok k ∧ Q (.bl k) H
theorem canLay_list {ds : List D} (h : SeqAt.shaped (.list ds) = true) : PyData.canLayAll0 ds = true := by
  have := SeqAt.canLay_of_shaped h
  simpa only [PyData.canLay0] using this
theorem canLay_tuple {ds : List D} (h : SeqAt.shaped (.tuple ds) = true) : PyData.canLayAll0 ds = true := by
  have := SeqAt.canLay_of_shaped h
  simpa only [PyData.canLay0] using this
theorem Repc.dp {K : PySem.W.Frag} {N : Addr → Prop} {H : Hp} {v : V} {d : D} (r : Repc K N H v d) (h : SeqAt.shaped d = true) : Dp K H v d := r.top.dp (SeqAt.canLay_of_shaped h)
theorem shaped_depth {d : D} {u : Nat} (h : SeqAt.shaped d = true) (hu : u + 200 < cLine) (e : D) : u + min d.depth e.depth < cLine := by
  have h1 := SeqAt.depth_of_shaped h
  have h2 : min d.depth e.depth ≤ d.depth := Nat.min_le_left _ _
  omega
theorem cmp_ints {op : CmpOp} {N : Addr → Prop} {H : Hp} {x y : V} {i j : Int} {Q : VK} {k : Bool} {g : Int → Int → Bool} (rule : OpR X (compareOp op) (rI0 fun i j => .bl (g i j))) (rx : Repc X.K N H x (.int i)) (ry : Repc X.K N H y (.int j)) (e : g i j = k) (q : Q (.bl k) H)
    {pins : List (Addr × Obj)} {s : Shared} {σ : L2.St} {v u : Value} (I : Inv X pins σ H s) (r1 : RelV x v) (r2 : RelV y u) :
    wpAny (model X.prog X.w) X.A (compareOp op v u) (EP X pins σ Q) X.xe s := rule pins s σ H x y v u Q I r1 r2 ⟨i, j, rx.int, ry.int, by subst e; exact q⟩
theorem cmp_D (g : Good X G) : ∀ (op : CmpOp), OpR X (compareOp op) (rCmp G op) := by
  intro op pins s σ H x y v u Q I rx ry h
  obtain ⟨N, a, b, k, ra, rb, e, q⟩ := h
  obtain ⟨K, T, cls⟩ := G
  obtain rfl : X.K = K := g.k
  have hu := g.un
  unfold cmpop at e
  split at e
  · obtain ⟨c, rfl⟩ := if_ok e
    obtain ⟨c1, c2⟩ := Bool.and_eq_true_iff.mp c
    exact op_eqD (by omega) pins s σ H x y v u Q I rx ry ⟨_, _, ra.dp c1, rb.dp c2, c1, c2, q⟩
  · obtain ⟨c, rfl⟩ := if_ok e
    obtain ⟨c1, c2⟩ := Bool.and_eq_true_iff.mp c
    exact op_neD (by omega) pins s σ H x y v u Q I rx ry ⟨_, _, ra.dp c1, rb.dp c2, c1, c2, q⟩
  · obtain rfl := ok_inj e
    refine op_isN pins s σ H x y v u Q I rx ry ⟨rb.none, ?_⟩
    cases ra with
    | of r => cases r <;> exact q
    | lst => exact q
    | dK => exact q
    | dT => exact q
  · obtain rfl := ok_inj e
    refine op_notN pins s σ H x y v u Q I rx ry ⟨rb.none, ?_⟩
    cases ra with
    | of r => cases r <;> exact q
    | lst => exact q
    | dK => exact q
    | dT => exact q
  · exact cmp_ints op_lt ra rb (ok_inj e).symm q I rx ry
  · exact cmp_ints op_le ra rb (ok_inj e).symm q I rx ry
  · exact cmp_ints op_gt ra rb (ok_inj e).symm q I rx ry
  · exact cmp_ints op_ge ra rb (ok_inj e).symm q I rx ry
  · obtain ⟨c, rfl⟩ := if_ok e
    obtain ⟨c1, c3⟩ := Bool.and_eq_true_iff.mp c
    obtain ⟨c1, c2⟩ := Bool.and_eq_true_iff.mp c1
    obtain ⟨as, r1⟩ := Dp.reads I _ x v (ra.dp c1) rx
    obtain ⟨bs, r2⟩ := Dp.reads I _ y u (rb.dp c2) ry
    exact W.lt_data r1 r2 c3 (fun z => by cases z) (shaped_depth c1 hu _) ⟨.bl _, H, I, rfl, q⟩
  · obtain ⟨c, rfl⟩ := if_ok e
    obtain ⟨c1, c3⟩ := Bool.and_eq_true_iff.mp c
    obtain ⟨c1, c2⟩ := Bool.and_eq_true_iff.mp c1
    obtain ⟨as, r1⟩ := Dp.reads I _ x v (ra.dp c1) rx
    obtain ⟨bs, r2⟩ := Dp.reads I _ y u (rb.dp c2) ry
    exact W.gt_data r1 r2 c3 (fun z => by cases z) (shaped_depth c1 hu _) ⟨.bl _, H, I, rfl, q⟩
  · obtain ⟨c, rfl⟩ := if_ok e
    obtain ⟨c1, c2⟩ := Bool.and_eq_true_iff.mp c
    exact op_inD (by omega) pins s σ H x y v u Q I rx ry ⟨_, _, ra.dp c1, rb.dp c2, c1, c2, q⟩
  · obtain ⟨c, rfl⟩ := if_ok e
    obtain ⟨c1, c2⟩ := Bool.and_eq_true_iff.mp c
    exact op_notInD (by omega) pins s σ H x y v u Q I rx ry ⟨_, _, ra.dp c1, rb.dp c2, c1, c2, q⟩
  · obtain ⟨c, rfl⟩ := if_ok e
    obtain ⟨c1, c2⟩ := Bool.and_eq_true_iff.mp c
    obtain ⟨as, r1⟩ := Dp.reads I _ x v (ra.dp c1) rx
    obtain ⟨bs, r2⟩ := Dp.reads I _ y u (rb.dp c2) ry
    exact SeqAt.in_tuple_reads r2 r1 (SeqAt.canLay_of_shaped c2) (SeqAt.canLay_of_shaped c1) (room_in_shaped c1 (by omega)) ⟨.bl _, H, I, rfl, q⟩
  · obtain ⟨c, rfl⟩ := if_ok e
    obtain ⟨c1, c2⟩ := Bool.and_eq_true_iff.mp c
    obtain ⟨as, r1⟩ := Dp.reads I _ x v (ra.dp c1) rx
    obtain ⟨bs, r2⟩ := Dp.reads I _ y u (rb.dp c2) ry
    exact SeqAt.notIn_tuple_reads r2 r1 (SeqAt.canLay_of_shaped c2) (SeqAt.canLay_of_shaped c1) (room_in_shaped c1 (by omega)) ⟨.bl _, H, I, rfl, q⟩
  · cases e
/-! ### unary operators -/
def rUn (G : Wd) (op : UnaryOp) : V → Hp → VK → Prop := fun x H Q => ∃ N a d, Repc G.K N H x a ∧ unop op a = .ok d ∧ ∀ v, Rep G.K N H v d → Q v H
theorem un_D : ∀ (op : UnaryOp), UnR X (unaryOp op) (rUn G op) := by
  intro op pins s σ H x v Q I rx h
  obtain ⟨N, a, d, ra, e, q⟩ := h
  unfold unop at e
  split at e
  · obtain rfl := ok_inj e
    exact un_neg pins s σ H x v Q I rx ⟨_, ra.int, q _ (.int _)⟩
  · obtain rfl := ok_inj e
    exact un_inv pins s σ H x v Q I rx ⟨_, ra.int, q _ (.int _)⟩
  · cases e
/-! ### truth -/
theorem tru_D {N : Addr → Prop} {H : Hp} {v : V} {d : D} {k : Bool} (r : Repc G.K N H v d) (e : truth d = .ok k) : TruV G.K v H k := by
  unfold truth at e
  split at e
  · obtain rfl := r.none; exact (ok_inj e)
  · obtain rfl := r.bool; exact (ok_inj e)
  · obtain rfl := r.int; exact (ok_inj e)
  · obtain rfl := r.str
    obtain ⟨h1, h2⟩ := if_okP e
    exact ⟨by rw [← LN_line]; exact h1, h2⟩
  · obtain ⟨a, xs, rfl, h1, h2, h3⟩ := r.list
    obtain rfl := ok_inj e
    exact .inl ⟨xs, h1, by cases h3 <;> rfl⟩
  · obtain ⟨a, xs, rfl, h1, h2, h3, _⟩ := r.tuple
    obtain rfl := ok_inj e
    exact .inr (.inl ⟨xs, h1, by cases h3 <;> rfl⟩)
  · cases e
/-! ### items -/
theorem place_at {n : Nat} {i : Int} {j : Nat} (e : place? n i = some j) : ixN n i = some j := by
  unfold place? at e
  unfold ixN
  by_cases h0 : 0 ≤ i
  · rw [if_pos h0] at e
    rw [if_pos h0]
    by_cases h1 : i.toNat < n
    · rw [if_pos h1] at e
      rw [if_pos (show i < n by omega)]
      exact e
    · rw [if_neg h1] at e; cases e
  · rw [if_neg h0] at e
    rw [if_neg h0]
    by_cases h1 : 0 ≤ i + n
    · rw [if_pos h1] at e
      rw [if_pos (by omega)]
      exact e
    · rw [if_neg h1] at e; cases e
def rIxD (G : Wd) : R2 := fun x y H Q => ∃ N a b d, Repc G.K N H x a ∧ Repc G.K N H y b ∧ index a b = .ok d ∧ ∀ v, Rep G.K N H v d → Q v H
theorem ix_D (g : Good X G) : IxR X (rIxD G) := by
  intro value slice pins s σ H x y v u Q I rx ry h hs
  obtain ⟨N, a, b, d, ra, rb, e, q⟩ := h
  obtain ⟨K, T, cls⟩ := G
  obtain rfl : X.K = K := g.k
  unfold index at e
  split at e
  · obtain ⟨p, vs, rfl, h1, h2, h3⟩ := ra.list
    split at e
    · rename_i j hj
      split at e
      · rename_i d' hd
        obtain rfl := ok_inj e
        obtain ⟨w, e1, e2⟩ := h3.get hd
        refine ix_list value slice pins s σ H _ _ v u Q I rx ry ⟨p, vs, _, w, rfl, rb.int, h1, ?_, q w e2⟩ hs
        unfold atI
        rw [h3.length, place_at hj]
        exact e1
      · cases e
    · cases e
  · obtain ⟨p, vs, rfl, h1, h2, h3, _⟩ := ra.tuple
    split at e
    · rename_i j hj
      split at e
      · rename_i d' hd
        obtain rfl := ok_inj e
        obtain ⟨w, e1, e2⟩ := h3.get hd
        refine ix_tup value slice pins s σ H _ _ v u Q I rx ry ⟨p, vs, _, w, rfl, rb.int, h1, ?_, q w e2⟩ hs
        unfold atI
        rw [h3.length, place_at hj]
        exact e1
      · cases e
    · cases e
  · cases e
/-! ### isinstance -/
def tyName : Ty → String
  | .int => "int"
  | .bool => "bool"
  | .str => "str"
  | .list => "list"
  | .tuple => "tuple"
def rIs (G : Wd) (ty : Ty) : List V → Hp → VK → Prop := fun xs H Q => ∃ x N a k, xs = [x, .ty (tyName ty)] ∧ Repc G.K N H x a ∧ isTy ty a = .ok k ∧ Q (.bl k) H
theorem tyx_lst {K : PySem.W.Frag} {H : Hp} {a : Addr} {xs : List V} (h : SqL K H a xs) : TyX K H (.ref a) (.type "list") := by
  rcases h with (h | ⟨o, h⟩) | ⟨o, its, n, h1, h2, h3, h4, h5, h6⟩
  · exact .base (.lst h)
  · exact .base (.frz h)
  · exact .kList h1 h2
theorem tyx_tup {K : PySem.W.Frag} {H : Hp} {a : Addr} {xs : List V} (h : SqT K H a xs) : TyX K H (.ref a) (.type "tuple") := by
  rcases h with (h | ⟨o, h⟩) | ⟨o, its, n, h1, h2, h3, h4, h5⟩
  · exact .base (.tup h)
  · exact .fTuple h
  · exact .kTuple h1 h2
theorem isi_D (g : Good X G) (ty : Ty) : CallR X (.builtin "isinstance") (rIs G ty) := by
  intro pins s σ H xs us Q I r h
  obtain ⟨x, N, a, k, rfl, ra, e, q⟩ := h
  obtain ⟨K, T, cls⟩ := G
  obtain rfl : X.K = K := g.k
  have key : ∃ t, TyX X.K H x t ∧ ∃ tn, t = .type tn ∧ kitB tn (tyName ty) = some k := by
    cases a with
    | none => obtain rfl := ra.none; exact ⟨_, .base .non, _, rfl, by cases ty <;> cases e <;> rfl⟩
    | bool b => obtain rfl := ra.bool; exact ⟨_, .base (.bl _), _, rfl, by cases ty <;> cases e <;> rfl⟩
    | int b => obtain rfl := ra.int; exact ⟨_, .base (.int _), _, rfl, by cases ty <;> cases e <;> rfl⟩
    | str b => obtain rfl := ra.str; exact ⟨_, .base (.str _), _, rfl, by cases ty <;> cases e <;> rfl⟩
    | list b => obtain ⟨p, vs, rfl, h1, h2, h3⟩ := ra.list; exact ⟨_, tyx_lst h1, _, rfl, by cases ty <;> cases e <;> rfl⟩
    | tuple b => obtain ⟨p, vs, rfl, h1, h2, h3, _⟩ := ra.tuple; exact ⟨_, tyx_tup h1, _, rfl, by cases ty <;> cases e <;> rfl⟩
    | dict b => cases ty <;> cases e
  obtain ⟨t, h1, tn, rfl, h2⟩ := key
  exact call_isi pins s σ H _ us Q I r ⟨x, _, _, _, k, rfl, .ty _, h1, kit_ty h2, q⟩
end
end EV

set_option Elab.async false
set_option linter.all false
set_option maxRecDepth 100000
set_option maxHeartbeats 1000000
/-! EvF: built-in calls by pure values. -/
namespace EV
open PySem PySem.Spec PyProof.Rows L2

section
variable {X : Cx} {G : Wd}
def rBi (G : Wd) (f : Bi) : List V → Hp → VK → Prop := fun xs H Q => ∃ N as d, NewOk N H ∧ TabsOk G.T H ∧ RepsF false G.K N H xs as ∧ bicall f as = .ok d ∧ Made G N H d Q
theorem repsF1 {fl : Bool} {K : PySem.W.Frag} {N : Addr → Prop} {H : Hp} {xs : List V} {a : D} (r : RepsF fl K N H xs [a]) : ∃ x, xs = [x] ∧ RepF fl K N H x a := by
  cases r with
  | cons r t => cases t; exact ⟨_, rfl, r⟩
theorem repsF2 {fl : Bool} {K : PySem.W.Frag} {N : Addr → Prop} {H : Hp} {xs : List V} {a b : D} (r : RepsF fl K N H xs [a, b]) : ∃ x y, xs = [x, y] ∧ RepF fl K N H x a ∧ RepF fl K N H y b := by
  cases r with
  | cons r t => cases t with
    | cons s t => cases t; exact ⟨_, _, rfl, r, s⟩
theorem reps_ints {K : PySem.W.Frag} {N : Addr → Prop} {H : Hp} : ∀ {ds : List D} {l : List Int} {xs : List V}, ints? ds = some l → Reps K N H xs ds → xs = l.map V.int
  | [], l, _, e, .nil => by cases e; rfl
  | .int i :: r, l, _, e, .cons a t => by
    unfold ints? at e
    cases z : ints? r with
    | none => rw [z] at e; cases e
    | some m =>
      rw [z] at e
      cases e
      cases a
      rw [reps_ints z t]
      rfl
  | .none :: _, _, _, e, _ => by cases e
  | .bool _ :: _, _, _, e, _ => by cases e
  | .str _ :: _, _, _, e, _ => by cases e
  | .list _ :: _, _, _, e, _ => by cases e
  | .tuple _ :: _, _, _, e, _ => by cases e
  | .dict _ :: _, _, _, e, _ => by cases e
theorem maxI_mem : ∀ (l : List Int) (a : Int), maxI l a = a ∨ maxI l a ∈ l
  | [], _ => .inl rfl
  | x :: r, a => by
    unfold maxI
    rcases maxI_mem r (if x > a then x else a) with h | h
    · rw [h]; split
      · exact .inr List.mem_cons_self
      · exact .inl rfl
    · exact .inr (List.mem_cons_of_mem _ h)
theorem maxI_ge : ∀ (l : List Int) (a : Int), a ≤ maxI l a ∧ ∀ y ∈ l, y ≤ maxI l a
  | [], _ => ⟨Int.le_refl _, fun _ h => by cases h⟩
  | x :: r, a => by
    unfold maxI
    obtain ⟨h1, h2⟩ := maxI_ge r (if x > a then x else a)
    refine ⟨?_, fun y hy => ?_⟩
    · split at h1 <;> rename_i z <;> simp only [z, if_true, if_false] <;> omega
    · rcases List.mem_cons.mp hy with rfl | hy
      · split at h1 <;> rename_i z <;> simp only [z, if_true, if_false] <;> omega
      · exact h2 y hy
theorem minI_mem : ∀ (l : List Int) (a : Int), minI l a = a ∨ minI l a ∈ l
  | [], _ => .inl rfl
  | x :: r, a => by
    unfold minI
    rcases minI_mem r (if x < a then x else a) with h | h
    · rw [h]; split
      · exact .inr List.mem_cons_self
      · exact .inl rfl
    · exact .inr (List.mem_cons_of_mem _ h)
theorem minI_le : ∀ (l : List Int) (a : Int), minI l a ≤ a ∧ ∀ y ∈ l, minI l a ≤ y
  | [], _ => ⟨Int.le_refl _, fun _ h => by cases h⟩
  | x :: r, a => by
    unfold minI
    obtain ⟨h1, h2⟩ := minI_le r (if x < a then x else a)
    refine ⟨?_, fun y hy => ?_⟩
    · split at h1 <;> rename_i z <;> simp only [z, if_true, if_false] <;> omega
    · rcases List.mem_cons.mp hy with rfl | hy
      · split at h1 <;> rename_i z <;> simp only [z, if_true, if_false] <;> omega
      · exact h2 y hy
theorem max_is {l : List Int} {a m : Int} (h1 : m ∈ a :: l) (h2 : ∀ y, y ∈ a :: l → y ≤ m) : m = maxI l a := by
  have h3 : maxI l a ∈ a :: l := by
    rcases maxI_mem l a with h | h
    · rw [h]; exact List.mem_cons_self
    · exact List.mem_cons_of_mem _ h
  have h4 := h2 _ h3
  obtain ⟨h5, h6⟩ := maxI_ge l a
  have h7 : m ≤ maxI l a := by
    rcases List.mem_cons.mp h1 with rfl | h
    · exact h5
    · exact h6 _ h
  omega
theorem min_is {l : List Int} {a m : Int} (h1 : m ∈ a :: l) (h2 : ∀ y, y ∈ a :: l → m ≤ y) : m = minI l a := by
  have h3 : minI l a ∈ a :: l := by
    rcases minI_mem l a with h | h
    · rw [h]; exact List.mem_cons_self
    · exact List.mem_cons_of_mem _ h
  have h4 := h2 _ h3
  obtain ⟨h5, h6⟩ := minI_le l a
  have h7 : minI l a ≤ m := by
    rcases List.mem_cons.mp h1 with rfl | h
    · exact h5
    · exact h6 _ h
  omega
/-- sum of a tuple of ints -/
theorem sum_rawT {prog : Program} {w : World} {A : Around} {E : Value → Shared → Prop} {s : Shared} {l : Addr} {its : List Value} {ns : List Int} {Q : Value → Shared → Prop} (hh : A.handled = none) (hl : s.heap.IsTuple l its.toArray) (hi : IntsAre its ns)
    (h : ∀ h' tk t', (∀ b o, s.heap.get? b = some o → h'.get? b = some o) → Q (.int ns.sum t') { s with heap := h', toks := tk }) : wpAny (model prog w) A (call (.builtin "sum") [.ref l]) Q E s := by
  obtain ⟨xs, e⟩ := hi.allInts.items
  have hn : numsOf (intItems xs).toList = ns := by rw [← e]; exact hi.numsOf
  rw [nums_intItems] at hn
  rw [e] at hl
  refine PySem.W.ktm_sumG hh hl fun h' tk t' hk => ?_
  have := h h' tk t' hk
  rw [preSum_eq, List.take_of_length_le (by simp), hn]; exact this
def rSumT (K : PySem.W.Frag) : List V → Hp → VK → Prop := fun vs H Q => ∃ (a : Addr) (ns : List Int), vs = [V.ref a] ∧ SqT K H a (ns.map V.int) ∧ Q (.int ns.sum) H
theorem cr_sumT (hc : X.calm = true) : CallR X (.builtin "sum") (rSumT X.K) := by
  intro pins s σ H vs us Q I r h
  obtain ⟨a, ns, rfl, hs, q⟩ := h
  obtain ⟨its, rv, hl, _⟩ := I.tuple hs
  rw [Vals.ref1 r]
  exact sum_rawT (I.ok.hd hc) hl rv.ints fun h' tk t' hk => ⟨.int _, H, I.kept hk, ⟨_, rfl⟩, q⟩
def biId : Bi → Value
  | .len => .builtin "len"
  | .abs => .builtin "abs"
  | .int => .type "int"
  | .tuple => .type "tuple"
  | .list => .type "list"
  | .sum => .builtin "sum"
  | .min => .builtin "min"
  | .max => .builtin "max"
  | .bitlen => .none
theorem bi_D (g : Good X G) : ∀ (f : Bi), f ≠ .bitlen → CallR X (biId f) (rBi G f) := by
  intro f hf pins s σ H xs us Q I r h
  obtain ⟨N, as, d, n, t, ra, e, m⟩ := h
  obtain ⟨K, T, cls⟩ := G
  obtain rfl : X.K = K := g.k
  have hc := g.calm
  unfold bicall at e
  split at e
  · obtain rfl := ok_inj e
    obtain ⟨x, rfl, rx⟩ := repsF1 ra
    obtain ⟨p, vs, rfl, h1, h2, h3⟩ := rx.c.list
    refine call_len_seq pins s σ H _ us Q I r ⟨p, vs, rfl, .inl h1, ?_⟩
    rw [h3.length]; exact m.int t
  · obtain rfl := ok_inj e
    obtain ⟨x, rfl, rx⟩ := repsF1 ra
    obtain ⟨p, vs, rfl, h1, h2, h3, _⟩ := rx.c.tuple
    refine call_len_seq pins s σ H _ us Q I r ⟨p, vs, rfl, .inr h1, ?_⟩
    rw [h3.length]; exact m.int t
  · obtain rfl := ok_inj e
    obtain ⟨x, rfl, rx⟩ := repsF1 ra
    obtain rfl := rx.c.int
    exact call_abs pins s σ H _ us Q I r ⟨_, rfl, m.int t⟩
  · obtain rfl := ok_inj e
    obtain ⟨x, rfl, rx⟩ := repsF1 ra
    obtain rfl := rx.c.int
    exact call_int1 pins s σ H _ us Q I r (.inl ⟨_, rfl, m.int t⟩)
  · obtain rfl := ok_inj e
    obtain ⟨x, rfl, rx⟩ := repsF1 ra
    obtain rfl := rx.c.bool
    exact call_int1 pins s σ H _ us Q I r (.inr ⟨_, rfl, m.int t⟩)
  · obtain rfl := ok_inj e
    obtain ⟨x, rfl, rx⟩ := repsF1 ra
    obtain ⟨p, vs, rfl, h1, h2, h3⟩ := rx.c.list
    exact call_tuple_of pins s σ H _ us Q I r ⟨p, vs, rfl, .inl ⟨h1, fun l hl => m.tup t n h2 h3 hl⟩⟩
  · obtain rfl := ok_inj e
    obtain ⟨x, rfl, rx⟩ := repsF1 ra
    obtain ⟨p, vs, rfl, h1, h2, h3, h4⟩ := rx.c.tuple
    exact call_tuple_of pins s σ H _ us Q I r ⟨p, vs, rfl, .inr ⟨h1, m _ H (Ext.refl H) t h4⟩⟩
  · obtain rfl := ok_inj e
    obtain ⟨x, rfl, rx⟩ := repsF1 ra
    obtain ⟨p, vs, rfl, h1, h2, h3⟩ := rx.c.list
    exact call_list_of pins s σ H _ us Q I r ⟨p, vs, rfl, .inl h1, fun l hl => m.lst t n h2 h3 hl⟩
  · obtain rfl := ok_inj e
    obtain ⟨x, rfl, rx⟩ := repsF1 ra
    obtain ⟨p, vs, rfl, h1, h2, h3, h4⟩ := rx.c.tuple
    exact call_list_of pins s σ H _ us Q I r ⟨p, vs, rfl, .inr h1, fun l hl => m.lst t n h2 h3 hl⟩
  · split at e
    · rename_i l hl
      obtain rfl := ok_inj e
      obtain ⟨x, rfl, rx⟩ := repsF1 ra
      obtain ⟨p, vs, rfl, h1, h2, h3⟩ := rx.c.list
      obtain rfl := reps_ints hl h3
      exact cr_sum hc pins s σ H _ us Q I r ⟨p, l, rfl, h1, m.int t⟩
    · cases e
  · split at e
    · rename_i l hl
      obtain rfl := ok_inj e
      obtain ⟨x, rfl, rx⟩ := repsF1 ra
      obtain ⟨p, vs, rfl, h1, h2, h3, _⟩ := rx.c.tuple
      obtain rfl := reps_ints hl h3
      exact cr_sumT hc pins s σ H _ us Q I r ⟨p, l, rfl, h1, m.int t⟩
    · cases e
  · split at e
    · rename_i i l hl
      obtain rfl := ok_inj e
      obtain ⟨x, rfl, rx⟩ := repsF1 ra
      obtain ⟨p, vs, rfl, h1, h2, h3⟩ := rx.c.list
      obtain rfl := reps_ints hl h3
      refine cr_min hc pins s σ H _ us Q I r ⟨p, i :: l, rfl, h1, Nat.zero_lt_succ _, fun z hz hz' => ?_⟩
      rw [min_is hz hz']; exact m.int t
    · cases e
  · split at e
    · rename_i i l hl
      obtain rfl := ok_inj e
      obtain ⟨x, rfl, rx⟩ := repsF1 ra
      obtain ⟨p, vs, rfl, h1, h2, h3⟩ := rx.c.list
      obtain rfl := reps_ints hl h3
      refine cr_max hc pins s σ H _ us Q I r ⟨p, i :: l, rfl, h1, Nat.zero_lt_succ _, fun z hz hz' => ?_⟩
      rw [max_is hz hz']; exact m.int t
    · cases e
  · obtain rfl := ok_inj e
    obtain ⟨x, y, rfl, rx, ry⟩ := repsF2 ra
    obtain rfl := rx.c.int
    obtain rfl := ry.c.int
    exact call_min2 hc pins s σ H _ us Q I r ⟨_, _, rfl, m.int t⟩
  · obtain rfl := ok_inj e
    obtain ⟨x, y, rfl, rx, ry⟩ := repsF2 ra
    obtain rfl := rx.c.int
    obtain rfl := ry.c.int
    exact call_max2 hc pins s σ H _ us Q I r ⟨_, _, rfl, m.int t⟩
  · exact absurd rfl hf
  · cases e
end
end EV

set_option Elab.async false
set_option linter.all false
set_option maxRecDepth 100000
set_option maxHeartbeats 1000000
/-! EvG: iterators over lists and tuples alike: enumerate, zip of two or three. -/
namespace EV
open PySem PySem.Spec PySem.Calls PyProof.Rows PyProof.V L2

/-! ### a source: a list (true) or a tuple (false) -/
def SeqS (K : PySem.W.Frag) (H : Hp) : Bool → Addr → List V → Prop
  | true => SqL K H
  | false => SqT K H
def srcObj : Bool → Addr → Obj
  | true, l => { cls := .type "list_iterator", data := .fields #[.ref l, .int 0 0] }
  | false, l => { cls := .type "tuple_iterator", data := .fields #[.ref l, .int 0 0] }
def srcIt (h : Heap) : Bool → Addr → Addr → Nat → Prop
  | true => h.IsListIter
  | false => h.IsTupleIter
def srcArr (h : Heap) : Bool → Addr → Array Value → Prop
  | true => h.IsList
  | false => h.IsTuple
theorem src_begins : ∀ (k : Bool) (a : Addr) (its : Array Value), Begins (.ref a) (srcObj k a) (fun h => srcArr h k a its)
  | true, a, its => begins_list a its
  | false, a, its => begins_tuple a its
theorem src_draws {prog : Program} {w : World} {A : Around} (hh : A.handled = none) : ∀ (k : Bool) (it a : Addr) (hne : a ≠ it) (its : Array Value),
    Draws prog w A it [it, a] its.size (fun i v => its[i]? = some v) (fun i h => srcIt h k it a i ∧ srcArr h k a its)
  | true, it, a, hne, its => Draws.list hh it a hne its
  | false, it, a, hne, its => Draws.tuple hh it a hne its
theorem src_it0 {h : Heap} {it a : Addr} : ∀ {k : Bool}, h.get? it = some (srcObj k a) → srcIt h k it a 0
  | true, e => ⟨_, e, rfl, rfl⟩
  | false, e => ⟨_, e, rfl, rfl⟩
theorem srcIt.get {h : Heap} {it a : Addr} {i : Nat} : ∀ {k : Bool}, srcIt h k it a i → ∃ o, h.get? it = some o ∧ ∀ v, o.data ≠ .cell v
  | true, ⟨o, e, _, d⟩ => ⟨o, e, fun v q => by rw [d] at q; cases q⟩
  | false, ⟨o, e, _, d⟩ => ⟨o, e, fun v q => by rw [d] at q; cases q⟩
theorem srcIt.at {h h' : Heap} {it a : Addr} {i : Nat} : ∀ {k : Bool}, srcIt h k it a i → (∀ o, h.get? it = some o → h'.get? it = some o) → srcIt h' k it a i
  | true, ⟨o, e, c, d⟩, f => ⟨o, f o e, c, d⟩
  | false, ⟨o, e, c, d⟩, f => ⟨o, f o e, c, d⟩
theorem srcArr.lt {h : Heap} {a : Addr} {its : Array Value} : ∀ {k : Bool}, srcArr h k a its → a < h.objs.size
  | true, ⟨_, e, _⟩ => Heap.lt_size e
  | false, ⟨_, e, _⟩ => Heap.lt_size e
section
variable {X : Cx} {pins : List (Addr × Obj)} {σ : L2.St} {H : Hp} {s : Shared}
theorem src_inv (I : Inv X pins σ H s) : ∀ {k : Bool} {a : Addr} {xs : List V}, SeqS X.K H k a xs → ∃ its : List Value, Vals xs its ∧ srcArr s.heap k a its.toArray ∧ xs.length ≤ sizeLine
  | true, a, xs, q => by
    obtain ⟨its, rv, p, hz⟩ := I.list q
    exact ⟨its, rv, p.isList, hz⟩
  | false, a, xs, q => by
    obtain ⟨its, rv, p, hz⟩ := I.tuple q
    exact ⟨its, rv, p, hz⟩
theorem src_inj (I : Inv X pins σ H s) : ∀ {k : Bool} {a : Addr} {xs ys : List V}, SeqS X.K H k a xs → SeqS X.K H k a ys → xs = ys
  | true, _, _, _, p, q => I.list_inj p q
  | false, _, _, _, p, q => I.tuple_inj p q
end
/-! ### a turn that gives a new tuple -/
theorem turn_W {P : Program} {w : World} {K : PySem.W.Frag} {elts : List Expr} {kk : Nat} {tpos : Pos} {J : It} {fp : List Addr} {I : Addr} {tn : Nat → Heap → Prop} (mem : I ∈ fp)
    (obj : ∀ i h, tn i h → ∀ b ∈ fp, ∃ o, h.get? b = some o ∧ ∀ v, o.data ≠ .cell v) (keep : ∀ i h h', tn i h → (∀ b ∈ fp, ∀ o, h.get? b = some o → h'.get? b = some o) → tn i h')
    (item : ∀ (X : Cx), X.prog = P → X.w = w → X.K = K → X.calm = true → ∀ (i : Nat) (pins : List (Addr × Obj)) (s : Shared) (σ : L2.St) (H : Hp), Inv X pins σ H s → tn i s.heap → J.go i H →
      ∃ fp' wr n Pt St Mid, WalksT P w X.A I fp' wr n Pt St Mid ∧ i < n ∧ St i s.heap ∧ (∀ b ∈ wr, b ∈ fp) ∧ (∀ h'', St (i + 1) h'' → tn (i + 1) h'') ∧
        ∀ vals, Pt i vals → ∃ xs : List V, Vals xs vals.toList ∧ xs.length ≤ 3 ∧ ∀ T, H T = none → J.yld i H (.ref T) (upd H T (.tup xs)))
    (done : ∀ (X : Cx), X.prog = P → X.w = w → X.K = K → X.calm = true → ∀ (i : Nat) (pins : List (Addr × Obj)) (s : Shared) (σ : L2.St) (H : Hp), Inv X pins σ H s → tn i s.heap → J.stop i H →
      ∃ fp' wr n Pt St Mid, WalksT P w X.A I fp' wr n Pt St Mid ∧ i = n ∧ St i s.heap ∧ (∀ b ∈ wr, b ∈ fp))
    (self : ∀ (A : Around) (i : Nat) (s : Shared) (Q : Value → Shared → Prop) (E : Value → Shared → Prop), tn i s.heap → Q (.ref I) s → wpAny (model P w) A (pyIter (.ref I)) Q E s) :
    Turn P w K (.Tuple elts kk tpos) J fp I tn where
  mem := mem
  obj := obj
  keep := keep
  self := self
  item := by
    intro X hP hw hK hc i pins s σ H E I0 hf st hg
    obtain ⟨fp', wr, n, Pt, St, Mid, W, hi, hs, hwr, hnx, hpt⟩ := item X hP hw hK hc i pins s σ H I0 st hg
    subst hP hw hK
    refine W.item i s _ E hi hs fun T vals h' tk hv hT hTup mid hk => ?_
    refine ⟨_, rfl, W.go elts kk tpos i T { s with heap := h', toks := tk } _ E mid fun h'' st'' hk'' => ?_⟩
    obtain ⟨xs, rv, hl, hy⟩ := hpt vals hv
    have hTn : H T = none := I0.hok.fresh hT
    have hTup2 : IsTup h'' T vals := by
      obtain ⟨o, e, c, m, d⟩ := hTup
      exact ⟨o, hk'' T o (W.apart i T h' mid) e, c, m, d⟩
    have new : ObjOk X.prog X.w (upd H T (.tup xs)) h'' T (.tup xs) :=
      ⟨by show xs.length ≤ sizeLine; rw [sizeLine_eq]; omega, vals.toList, rv, by simpa using hTup2⟩
    have I1 : Inv X pins σ (upd H T (.tup xs)) { s with heap := h'', toks := tk } :=
      I0.turnedNew (t' := tk) (ch := fp) (fun b o hb e => hk'' b o (fun z => hb (hwr b z)) (hk b o (fun z => hb (hwr b z)) e)) hf hT new
    refine ⟨.ref T, _, I1, rfl, hy T hTn, hnx h'' st'', fun b hb => ?_⟩
    obtain ⟨o, e, _⟩ := obj i s.heap st b hb
    rw [upd_ne (Nat.ne_of_lt (Nat.lt_of_lt_of_le (Heap.lt_size e) hT))]
    exact (hf b hb).1
  done := by
    intro X hP hw hK hc i pins s σ H E I0 hf st hg
    obtain ⟨fp', wr, n, Pt, St, Mid, W, hi, hs, hwr⟩ := done X hP hw hK hc i pins s σ H I0 st hg
    subst hP hw hK hi
    exact W.done s _ E hs fun h' tk hk => ⟨rfl, I0.turnedL (t' := tk) (ch := fp) (fun b o hb e => hk b o (fun z => hb (hwr b z)) e) hf⟩

/-! ### enumerate -/
def ItE (K : PySem.W.Frag) (k : Bool) (a : Addr) : It :=
  ⟨fun i H => ∃ (xs : List V) (x : V), SeqS K H k a xs ∧ xs[i]? = some x, fun i H v H' => ∃ T x, v = .ref T ∧ H T = none ∧ H' = upd H T (.tup [.int (i : Nat), x]) ∧ ∀ xs, SeqS K H k a xs → xs[i]? = some x, fun i H => ∃ xs : List V, SeqS K H k a xs ∧ xs.length = i⟩
theorem turn_enumS {P : Program} {w : World} {K : PySem.W.Frag} {elts : List Expr} {kk : Nat} {tpos : Pos} (k : Bool) (a e it : Addr) (h1 : a ≠ it) (h2 : e ≠ it) (h3 : e ∉ [it, a]) :
    Turn P w K (.Tuple elts kk tpos) (ItE K k a) [e, it] e (fun i h => (∃ old, IsEnum h e it (0 + ((i : Nat) : Int)) old) ∧ srcIt h k it a i) := by
  refine turn_W (by simp) ?_ ?_ ?_ ?_ ?_
  · intro i h st b hb
    obtain ⟨⟨old, he⟩, hi⟩ := st
    have e' : b = e ∨ b = it := by simpa using hb
    rcases e' with z | z
    · rw [z]; exact ⟨_, he, fun v q => nomatch q⟩
    · rw [z]; exact hi.get
  · intro i h h' st kp
    obtain ⟨⟨old, he⟩, hi⟩ := st
    exact ⟨⟨old, kp e (by simp) _ he⟩, hi.at fun o q => kp it (by simp) o q⟩
  · intro X hP hw hK hc i pins s σ H I st hg
    subst hP hw hK
    obtain ⟨xs, x, hq, hx⟩ := hg
    obtain ⟨its, rv, p, hz⟩ := src_inv I hq
    have hl := rv.length
    have hi : i < xs.length := (List.getElem?_eq_some_iff.mp hx).1
    have D := src_draws (prog := X.prog) (w := X.w) (A := X.A.in1) (I.ok.hd hc) k it a h1 its.toArray
    refine ⟨_, _, _, _, _, _, WalksT.enumFrom 0 D e h2 h3 (by simp), by rw [List.size_toArray]; omega, ⟨st.1, st.2, p⟩, fun b hb => hb, fun h'' q => ⟨q.1, q.2.1⟩, fun vals hv => ?_⟩
    obtain ⟨t, u, hu, rfl⟩ := hv
    obtain ⟨u', hu', ru⟩ := rv.get hx
    have e1 : u = u' := by
      have : its.toArray[i]? = some u := hu
      rw [List.getElem?_toArray] at this
      rw [hu'] at this
      exact (Option.some.inj this).symm
    subst e1
    refine ⟨[.int (i : Nat), x], .cons ⟨t, by rw [Int.zero_add]⟩ (.cons ru .nil), by show 2 ≤ 3; decide, fun T hT => ⟨T, x, rfl, hT, rfl, fun ys hy => by rw [src_inj I hy hq]; exact hx⟩⟩
  · intro X hP hw hK hc i pins s σ H I st hg
    subst hP hw hK
    obtain ⟨xs, hq, hx⟩ := hg
    obtain ⟨its, rv, p, hz⟩ := src_inv I hq
    have hl := rv.length
    have D := src_draws (prog := X.prog) (w := X.w) (A := X.A.in1) (I.ok.hd hc) k it a h1 its.toArray
    exact ⟨_, _, _, _, _, _, WalksT.enumFrom 0 D e h2 h3 (by simp), by rw [List.size_toArray]; omega, ⟨st.1, st.2, p⟩, fun b hb => hb⟩
  · intro A i s Q E st h
    obtain ⟨⟨_, he⟩, _⟩ := st
    exact wpAny_pyIter_enum he h
theorem meets_enumerate_newB1 {v : Value} {o : Obj} {H : Heap → Prop} (B : Begins v o H) :
    Meets (Builtin.«enumerate.__new__» ⟨[.type "enumerate", v], []⟩) (fun _ R s => H s.heap ∧
      R (.ok (.ret (.ref (s.heap.push o).objs.size))) { s with heap := (s.heap.push o).push { cls := .type "enumerate", data := .fields #[.none, .bool false, .ref s.heap.objs.size, rawInt 0, .none, .none] } }) :=
  .of_wp fun prog w A R s h => by
    obtain ⟨hp, g, d, tk, os⟩ := s; obtain ⟨h1, h⟩ := h
    have hsub := sub_enumerate
    have q1 : ∀ {A' : Around} {E : Value → Shared → Prop} {Q : Value → Shared → Prop}, Q (.ref hp.objs.size) ⟨hp.push o, g, d, tk, os⟩ → wpAny (model prog w) A' (pyIter v) Q E ⟨hp, g, d, tk, os⟩ :=
      fun q => B.iter prog w _ _ ⟨hp, g, d, tk, os⟩ _ h1 q
    wp_walk using q1
    refine wpAny_stack_any fun st => wpAny_pure ?_
    split
    · rename_i c _ _ _ _ _
      cases (c == Value.type "enumerate")
      · wp_walk using q1
        exact ⟨_, rfl, h⟩
      · wp_walk using q1
        exact ⟨_, rfl, h⟩
    · wp_walk using q1
      exact ⟨_, rfl, h⟩
section
variable {prog : Program} {w : World} {A : Around} {E : Value → Shared → Prop} {s : Shared}
theorem enum_begins1 {v : Value} {o : Obj} {H : Heap → Prop} {Q : Value → Shared → Prop} (B : Begins v o H) (h1 : H s.heap)
    (h : ∀ h', IsEnum h' (s.heap.objs.size + 1) s.heap.objs.size 0 .none → h'.get? s.heap.objs.size = some o → h'.objs.size = s.heap.objs.size + 2 →
      (∀ b o, s.heap.get? b = some o → h'.get? b = some o) → Q (.ref (s.heap.objs.size + 1)) { s with heap := h' }) :
    wpAny (model prog w) A (call (.type "enumerate") [v]) Q E s := by
  refine callType_new F.called_enumerate (by decide) (F.typeCall_enumerate_1 _) (F.newCall_enumerate_1 _) (fun obj => F.args_object_init_2 obj _) F.entry_enumerate_new
    (meets_enumerate_newB1 B) ⟨h1, ?_⟩
  have hz : (s.heap.push o).objs.size = s.heap.objs.size + 1 := Heap.size_push ..
  show _ ∧ _
  rw [hz]
  have he : IsEnum ((s.heap.push o).push { cls := .type "enumerate", data := .fields #[.none, .bool false, .ref s.heap.objs.size, rawInt 0, .none, .none] }) (s.heap.objs.size + 1) s.heap.objs.size 0 .none := by
    have := Heap.get?_push_size (s.heap.push o) (o := { cls := .type "enumerate", data := .fields #[.none, .bool false, .ref s.heap.objs.size, rawInt 0, .none, .none] }) rfl
    rw [hz] at this; exact this
  refine ⟨⟨_, he, rfl⟩, h _ he (Heap.get?_push_of_some _ (Heap.get?_push_size _ B.free)) (by rw [Heap.size_push, hz]) fun b o x => Heap.get?_push_of_some _ (Heap.get?_push_of_some _ x)⟩
end
theorem vals1r {xs : List V} {us : List Value} {a : Addr} (r : Vals xs us) (e : xs = [.ref a]) : us = [.ref a] := by
  subst e
  cases r with
  | cons r rr => cases rr; cases r; rfl
theorem vals2r {xs : List V} {us : List Value} {a b : Addr} (r : Vals xs us) (e : xs = [.ref a, .ref b]) : us = [.ref a, .ref b] := by
  subst e
  cases r with
  | cons r rr => cases rr with
    | cons r' rr => cases rr; cases r; cases r'; rfl
theorem vals3r {xs : List V} {us : List Value} {a b c : Addr} (r : Vals xs us) (e : xs = [.ref a, .ref b, .ref c]) : us = [.ref a, .ref b, .ref c] := by
  subst e
  cases r with
  | cons r rr => cases rr with
    | cons r' rr => cases rr with
      | cons r2 rr => cases rr; cases r; cases r'; cases r2; rfl
def iEnumS (K : PySem.W.Frag) (ta : TA) : TI := fun σ H R => ta σ H fun vs H1 => ∃ k a xs, vs = [.ref a] ∧ SeqS K H1 k a xs ∧ R (ItE K k a) H1
theorem pi_enumS {X : Cx} {e : Expr} {ta : TA} {p pos tpos : Pos} {elts : List Expr} {kk : Nat} (hg : Gl X "enumerate") (hm : X.mg "enumerate" = none) (ha : PA X [e] ta) (hs : starEach [e] X.env = (false, eval e X.env) :: starEach [] X.env) (hpl : (backTo pos (starEach [] X.env)).any (·.1) = false) :
    PI X (.Tuple elts kk tpos) (.Call (.Name "enumerate" p) [e] [] pos) (iEnumS X.K ta) := by
  refine ⟨fun pins s σ H R I h => ?_⟩
  refine Call_ (ld_blt I hg hm boot_enumerate (PyProof.Rows.callWith_type1 (thn (ha.run pos pins s σ H _ I h) fun us s1 ⟨vs, H1, I1, r1, q1⟩ => ?_) hs hpl))
  obtain ⟨k, a, xs, ex, hq, q⟩ := q1
  obtain rfl := vals1r r1 ex
  obtain ⟨its, rv, p', hz⟩ := src_inv I1 hq
  refine enum_begins1 (src_begins k a its.toArray) p' fun h' he hit hsz hk => wpAny_pyIter_enum he ?_
  have I2 : Inv X pins σ H1 { s1 with heap := h' } := I1.kept (t' := s1.toks) hk
  have hlt := p'.lt
  refine ⟨s1.heap.objs.size + 1, [s1.heap.objs.size + 1, s1.heap.objs.size], _, _, H1, rfl, I2, turn_enumS k a (s1.heap.objs.size + 1) s1.heap.objs.size (Nat.ne_of_lt hlt) (Nat.succ_ne_self _) ?_, ⟨⟨.none, he⟩, src_it0 hit⟩, fun b hb => ?_, q⟩
  · intro z
    have e' : (s1.heap.objs.size + 1 : Nat) = s1.heap.objs.size ∨ (s1.heap.objs.size + 1 : Nat) = a := by simpa using z
    rcases e' with e' | e'
    · exact absurd e' (Nat.succ_ne_self _)
    · rw [← e'] at hlt
      exact absurd hlt (Nat.not_lt.mpr (Nat.le_succ _))
  · have e' : b = s1.heap.objs.size + 1 ∨ b = s1.heap.objs.size := by simpa using hb
    have hle : s1.heap.objs.size ≤ b := by
      rcases e' with z | z
      · rw [z]; exact Nat.le_add_right _ _
      · rw [z]; exact Nat.le_refl _
    exact I1.fpOk hle (I1.hok.fresh hle)

/-! ### zip of two -/
def ItZ2 (K : PySem.W.Frag) (k1 : Bool) (a : Addr) (k2 : Bool) (b : Addr) : It :=
  ⟨fun i H => ∃ (xs ys : List V) (x y : V), SeqS K H k1 a xs ∧ SeqS K H k2 b ys ∧ xs[i]? = some x ∧ ys[i]? = some y,
    fun i H v H' => ∃ T x y, v = .ref T ∧ H T = none ∧ H' = upd H T (.tup [x, y]) ∧ (∀ xs, SeqS K H k1 a xs → xs[i]? = some x) ∧ ∀ ys, SeqS K H k2 b ys → ys[i]? = some y,
    fun i H => ∃ xs ys : List V, SeqS K H k1 a xs ∧ SeqS K H k2 b ys ∧ i = min xs.length ys.length⟩
theorem get_its {its : List Value} {xs : List V} {i : Nat} {x : V} {u : Value} (rv : Vals xs its) (hx : xs[i]? = some x) (hu : its.toArray[i]? = some u) : RelV x u := by
  obtain ⟨u', hu', ru⟩ := rv.get hx
  rw [List.getElem?_toArray, hu'] at hu
  cases hu
  exact ru
theorem turn_zip2 {P : Program} {w : World} {K : PySem.W.Frag} {elts : List Expr} {kk : Nat} {tpos : Pos} {k1 k2 : Bool} {a b z TI TO i1 i2 : Addr} (D : ZipSep2 z TI TO i1 i2 [i1, a] [i2, b]) (ha : a ≠ i1) (hb : b ≠ i2) :
    Turn P w K (.Tuple elts kk tpos) (ItZ2 K k1 a k2 b) [z, TI, TO, i1, i2] z (fun i h => IsZip h z TI TO .none ∧ IsTupOf2 h TI (.ref i1) (.ref i2) ∧ (∃ a1 a2, IsTupOf2 h TO a1 a2) ∧ srcIt h k1 i1 a i ∧ srcIt h k2 i2 b i) := by
  refine turn_W (by simp) ?_ ?_ ?_ ?_ ?_
  · intro i h st c hc
    obtain ⟨hz, hTI, ⟨x, y, hTO⟩, h1, h2⟩ := st
    have e' : c = z ∨ c = TI ∨ c = TO ∨ c = i1 ∨ c = i2 := by simpa using hc
    rcases e' with q | q | q | q | q
    · rw [q]; exact ⟨_, hz, fun v q => nomatch q⟩
    · rw [q]; exact ⟨_, hTI, fun v q => nomatch q⟩
    · rw [q]; exact ⟨_, hTO, fun v q => nomatch q⟩
    · rw [q]; exact h1.get
    · rw [q]; exact h2.get
  · intro i h h' st kp
    obtain ⟨hz, hTI, ⟨x, y, hTO⟩, h1, h2⟩ := st
    exact ⟨kp z (by simp) _ hz, kp TI (by simp) _ hTI, ⟨x, y, kp TO (by simp) _ hTO⟩, h1.at fun o q => kp i1 (by simp) o q, h2.at fun o q => kp i2 (by simp) o q⟩
  · intro X hP hw hK hc i pins s σ H I st hg
    subst hP hw hK
    obtain ⟨hz, hTI, hTO, h1, h2⟩ := st
    obtain ⟨xs, ys, x, y, hqx, hqy, hx, hy⟩ := hg
    obtain ⟨its, rv, p, _⟩ := src_inv I hqx
    obtain ⟨its2, rv2, p2, _⟩ := src_inv I hqy
    have l1 := rv.length
    have l2 := rv2.length
    have D1 := src_draws (prog := X.prog) (w := X.w) (A := X.A.in1) (I.ok.hd hc) k1 i1 a ha its.toArray
    have D2 := src_draws (prog := X.prog) (w := X.w) (A := X.A.in1) (I.ok.hd hc) k2 i2 b hb its2.toArray
    have hi : i < xs.length := (List.getElem?_eq_some_iff.mp hx).1
    have hi2 : i < ys.length := (List.getElem?_eq_some_iff.mp hy).1
    refine ⟨_, _, _, _, _, _, WalksT.zipD2 D D1 D2, by rw [List.size_toArray, List.size_toArray]; omega, ⟨hz, hTI, hTO, ⟨h1, p⟩, h2, p2⟩, fun c hc => ?_, fun h'' q => ⟨q.1, q.2.1, q.2.2.1, q.2.2.2.1.1, q.2.2.2.2.1⟩, fun vals hv => ?_⟩
    · have e' : c = z ∨ c = TO ∨ c = i1 ∨ c = i2 := by simpa using hc
      rcases e' with q | q | q | q <;> rw [q] <;> simp
    · obtain ⟨u1, u2, hu1, hu2, rfl⟩ := hv
      exact ⟨[x, y], .cons (get_its rv hx hu1) (.cons (get_its rv2 hy hu2) .nil), by show 2 ≤ 3; decide, fun T hT => ⟨T, x, y, rfl, hT, rfl, fun ys hy => by rw [src_inj I hy hqx]; exact hx, fun zs hz => by rw [src_inj I hz hqy]; exact hy⟩⟩
  · intro X hP hw hK hc i pins s σ H I st hg
    subst hP hw hK
    obtain ⟨hz, hTI, hTO, h1, h2⟩ := st
    obtain ⟨xs, ys, hqx, hqy, hi⟩ := hg
    obtain ⟨its, rv, p, _⟩ := src_inv I hqx
    obtain ⟨its2, rv2, p2, _⟩ := src_inv I hqy
    have l1 := rv.length
    have l2 := rv2.length
    have D1 := src_draws (prog := X.prog) (w := X.w) (A := X.A.in1) (I.ok.hd hc) k1 i1 a ha its.toArray
    have D2 := src_draws (prog := X.prog) (w := X.w) (A := X.A.in1) (I.ok.hd hc) k2 i2 b hb its2.toArray
    refine ⟨_, _, _, _, _, _, WalksT.zipD2 D D1 D2, by rw [List.size_toArray, List.size_toArray]; omega, ⟨hz, hTI, hTO, ⟨h1, p⟩, h2, p2⟩, fun c hc => ?_⟩
    have e' : c = z ∨ c = TO ∨ c = i1 ∨ c = i2 := by simpa using hc
    rcases e' with q | q | q | q <;> rw [q] <;> simp
  · intro A i s Q E st h
    exact wpAny_pyIter_zip st.1 h
def iZip2 (K : PySem.W.Frag) (ta : TA) : TI := fun σ H R => ta σ H fun vs H1 => ∃ k1 a xs k2 b ys, vs = [.ref a, .ref b] ∧ SeqS K H1 k1 a xs ∧ SeqS K H1 k2 b ys ∧ R (ItZ2 K k1 a k2 b) H1
theorem pi_zip2 {X : Cx} {e e2 : Expr} {ta : TA} {p pos tpos : Pos} {elts : List Expr} {kk : Nat} (hg : Gl X "zip") (hm : X.mg "zip" = none) (ha : PA X [e, e2] ta)
    (hs : starEach [e, e2] X.env = (false, eval e X.env) :: starEach [e2] X.env) (hpl : (backTo pos (starEach [e2] X.env)).any (·.1) = false) :
    PI X (.Tuple elts kk tpos) (.Call (.Name "zip" p) [e, e2] [] pos) (iZip2 X.K ta) := by
  refine ⟨fun pins s σ H R I h => ?_⟩
  refine Call_ (ld_blt I hg hm PyProof.Rows.boot_zip (PyProof.Rows.callWith_type1 (thn (ha.run pos pins s σ H _ I h) fun us s1 ⟨vs, H1, I1, r1, q1⟩ => ?_) hs hpl))
  obtain ⟨k1, a, xs, k2, b, ys, ex, hqx, hqy, q⟩ := q1
  obtain rfl := vals2r r1 ex
  obtain ⟨its, rv, p1, hz1⟩ := src_inv I1 hqx
  obtain ⟨its2, rv2, p2, hz2⟩ := src_inv I1 hqy
  have lt1 := p1.lt
  have lt2 := p2.lt
  refine zip_begins2 (src_begins k1 a its.toArray) (src_begins k2 b its2.toArray) p1 p2 fun h' hz hTI hTO h1 h2 hsz hk => wpAny_pyIter_zip hz ?_
  have I2 : Inv X pins σ H1 { s1 with heap := h' } := I1.kept (t' := s1.toks) hk
  refine ⟨s1.heap.objs.size + 4, [s1.heap.objs.size + 4, s1.heap.objs.size + 2, s1.heap.objs.size + 3, s1.heap.objs.size, s1.heap.objs.size + 1], _, _, H1, rfl, I2,
    turn_zip2 (zip_sep2 (fp1 := [a]) (fp2 := [b]) (fun c hc => by rw [List.mem_singleton.mp hc]; exact lt1) (fun c hc => by rw [List.mem_singleton.mp hc]; exact lt2)) (Nat.ne_of_lt lt1) (Nat.ne_of_lt (Nat.lt_succ_of_lt lt2)), ⟨hz, hTI, ⟨_, _, hTO⟩, src_it0 h1, src_it0 h2⟩, fun c hcm => ?_, q⟩
  have e' : c = s1.heap.objs.size + 4 ∨ c = s1.heap.objs.size + 2 ∨ c = s1.heap.objs.size + 3 ∨ c = s1.heap.objs.size ∨ c = s1.heap.objs.size + 1 := by simpa using hcm
  have hle : s1.heap.objs.size ≤ c := by
    rcases e' with z | z | z | z | z
    · rw [z]; exact Nat.le_add_right _ _
    · rw [z]; exact Nat.le_add_right _ _
    · rw [z]; exact Nat.le_add_right _ _
    · rw [z]; exact Nat.le_refl _
    · rw [z]; exact Nat.le_add_right _ _
  exact I1.fpOk hle (I1.hok.fresh hle)
end EV

set_option Elab.async false
set_option linter.all false
set_option maxRecDepth 100000
set_option maxHeartbeats 1000000
/-! EvH: the judgements of expressions. -/
namespace EV
open PySem PySem.Spec PyProof.Rows L2

/-- a value and a test reading of an expression -/
structure Snd (X : Cx) (G : Wd) (W : WX) (e : Expr) (A : Bool → List Nat) (f : Env → R D) : Prop where
  pe : ∀ fl, PE X e (rdE G W fl (A fl) f)
  pt : PT X e (rdT G W (A false) fun δ => (f δ).bind truth)
  pw : ∀ op vs pos, e = .BoolOp op vs pos → PW X e (rdT G W (A false) fun δ => (f δ).bind truth)

def Quiet {α : Type} (r : R α) : Prop := ∀ c, r ≠ .exc c
section
variable {G : Wd} {W : WX} {σ : L2.St} {α β : Type} {H H1 : Hp}
theorem Fin.quiet {r : R α} {k : α → Hp → Prop} (h : Fin G W σ r H k) (q : Quiet r) : ∃ a, r = .ok a ∧ ∀ H', Ext H H' → TabsOk G.T H' → k a H' := by
  cases r with
  | ok a => exact ⟨a, rfl, h⟩
  | exc c => exact absurd rfl (q c)
  | bad => exact h.elim
theorem Fin.eq {r r' : R α} {k : α → Hp → Prop} (h : Fin G W σ r H k) (e : r = r') : Fin G W σ r' H k := e ▸ h
end
theorem quiet_ok {α : Type} {a : α} : Quiet (R.ok a) := fun _ h => nomatch h
theorem quiet_bad {α : Type} : Quiet (R.bad : R α) := fun _ h => nomatch h
theorem quiet_ite {α : Type} {c : Prop} [Decidable c] {a b : R α} (h1 : Quiet a) (h2 : Quiet b) : Quiet (if c then a else b) := by
  split
  · exact h1
  · exact h2
theorem quiet_truth (d : D) : Quiet (truth d) := by
  unfold truth
  split
  all_goals first | exact quiet_ok | exact quiet_bad | exact quiet_ite quiet_ok quiet_bad
theorem quiet_intop (op : Operator) (i j : Int) : Quiet (intop op i j) := by
  unfold intop
  split
  all_goals first | exact quiet_ok | exact quiet_bad | exact quiet_ite quiet_ok quiet_bad
theorem quiet_binop (op : Operator) (a b : D) : Quiet (binop op a b) := by
  unfold binop
  split
  all_goals first | exact quiet_intop _ _ _ | exact quiet_ok | exact quiet_bad | exact quiet_ite quiet_ok quiet_bad
theorem quiet_unop (op : UnaryOp) (a : D) : Quiet (unop op a) := by
  unfold unop
  split
  all_goals first | exact quiet_ok | exact quiet_bad
theorem quiet_cmpop (op : CmpOp) (a b : D) : Quiet (cmpop op a b) := by
  unfold cmpop
  split
  all_goals first | exact quiet_ok | exact quiet_bad | exact quiet_ite quiet_ok quiet_bad
theorem quiet_index (a b : D) : Quiet (index a b) := by
  unfold index
  split
  all_goals first | exact quiet_bad | skip
  all_goals
    split
    · split
      · exact quiet_ok
      · exact quiet_bad
    · exact quiet_bad
theorem quiet_isTy (t : Ty) (a : D) : Quiet (isTy t a) := by
  unfold isTy
  split
  all_goals first | exact quiet_ok | exact quiet_bad
theorem quiet_bicall (f : Bi) (as : List D) : Quiet (bicall f as) := by
  unfold bicall
  split
  all_goals first | exact quiet_ok | exact quiet_bad | skip
  all_goals
    split
    all_goals first | exact quiet_ok | exact quiet_bad

section
variable {X : Cx} {G : Wd} {W : WX} {e e1 e2 e3 : Expr} {A A1 A2 A3 : Bool → List Nat} {f f1 f2 f3 : Env → R D} {pos : Pos}
theorem pt_of (g : Good X G) (h : PE X e (rdE G W false (A false) f)) (he : ∀ whole, isTrue e X.env whole = (do let v ← whole; standAt e.pos; holding [v] (truthy v))) : PT X e (rdT G W (A false) fun δ => (f δ).bind truth) := by
  refine pt_imp (pt_truth h he) fun σ H Q q => ?_
  obtain ⟨N, δ, at_, q⟩ := q
  refine ⟨N, δ, at_, q.bind fun d H1 x1 t1 q1 v rv => ?_⟩
  obtain ⟨k, ek, q1⟩ := q1.quiet (quiet_truth d)
  exact ⟨k, by rw [g.k]; exact tru_D rv.c ek, q1 H1 (Ext.refl H1) t1⟩
theorem Snd.plain (g : Good X G) (h : ∀ fl, PE X e (rdE G W fl (A fl) f)) (he : ∀ whole, isTrue e X.env whole = (do let v ← whole; standAt e.pos; holding [v] (truthy v))) (hb : ∀ op vs pos, e ≠ .BoolOp op vs pos) : Snd X G W e A f :=
  ⟨h, pt_of g (h false) he, fun op vs pos z => absurd z (hb op vs pos)⟩
theorem Snd.imp {A' : Bool → List Nat} {f' : Env → R D} (h : Snd X G W e A f) (ha : ∀ fl i, i ∈ A fl → i ∈ A' fl) (hf : ∀ δ, f' δ = f δ) : Snd X G W e A' f' := by
  have e0 : f' = f := funext hf
  subst e0
  have m : ∀ σ H Q, rdT G W (A' false) (fun δ => (f' δ).bind truth) σ H Q → rdT G W (A false) (fun δ => (f' δ).bind truth) σ H Q := fun σ H Q ⟨N, δ, at_, q⟩ => ⟨N, δ, at_.sub (ha false), q⟩
  exact ⟨fun fl => pe_imp (h.pe fl) fun σ H Q ⟨N, δ, at_, q⟩ => ⟨N, δ, at_.sub (ha fl), q⟩, pt_imp h.pt m, fun op vs pos z => ⟨fun wh pins s σ H Q I q => (h.pw op vs pos z).run wh pins s σ H Q I (m σ H Q q)⟩⟩

/-! ### names, constants -/
theorem s_var (g : Good X G) {i : Nat} {x : Str} (hN : X.N[i]? = some x) (hv : Vis X.env.scope x) (hd : (x == ("__debug__" : Str)) = false) (hcd : (x == ("__classdict__" : Str)) = false) :
    Snd X G W (.Name x pos) (fun fl => if fl = true then [i] else []) fun δ => envGet δ i :=
  .plain g (fun fl => j_var hN hv hd hcd) (fun _ => rfl) fun _ _ _ z => nomatch z
theorem s_con (g : Good X G) {v : V} {d : D} (h : PE X e (tC v)) (r : ∀ N H, Rep G.K N H v d) (he : ∀ whole, isTrue e X.env whole = (do let v ← whole; standAt e.pos; holding [v] (truthy v))) (hb : ∀ op vs pos, e ≠ .BoolOp op vs pos) :
    Snd X G W e (fun _ => []) fun _ => .ok d :=
  .plain g (fun fl => j_lit h (fun _ _ _ q => q) r) he hb
/-! ### operators -/
theorem s_bin (g : Good X G) {op : Operator} (h1 : Snd X G W e1 A1 f1) (h2 : Snd X G W e2 A2 f2) :
    Snd X G W (.BinOp e1 op e2 pos) (fun _ => A1 false ++ A2 false) fun δ => (f1 δ).bind fun x => (f2 δ).bind fun y => binop op x y := by
  refine .plain g (fun fl => ?_) (fun _ => rfl) fun _ _ _ z => nomatch z
  refine pe_imp (pe_op (op_D g.k op) (h1.pe false) (h2.pe false)) fun σ H Q q => ?_
  obtain ⟨N, δ, at_, q⟩ := q
  refine ⟨N, δ, at_.l, q.bind fun x H1 x1 t1 q1 v rv => ⟨N, δ, at_.r.ext x1 t1, q1.bind fun y H2 x2 t2 q2 w rw => ?_⟩⟩
  obtain ⟨d, ed, q2⟩ := q2.quiet (quiet_binop op x y)
  exact ⟨N, x, y, d, (at_.new.ext x1).ext x2, t2, rv.c.ext x2, rw.c, ed, fun z H' x' t' rz => q2 H' x' t' z (RepF.of rz)⟩
theorem s_un (g : Good X G) {op : UnaryOp} (hop : op ≠ .Not) (h1 : Snd X G W e1 A1 f1) : Snd X G W (.UnaryOp op e1 pos) (fun _ => A1 false) fun δ => (f1 δ).bind fun x => unop op x := by
  refine .plain g (fun fl => ?_) (fun _ => by cases op <;> first | rfl | exact absurd rfl hop) fun _ _ _ z => nomatch z
  refine pe_imp (pe_un (un_D (G := G) op) (h1.pe false)) fun σ H Q q => ?_
  obtain ⟨N, δ, at_, q⟩ := q
  refine ⟨N, δ, at_, q.bind fun x H1 x1 t1 q1 v rv => ?_⟩
  obtain ⟨d, ed, q1⟩ := q1.quiet (quiet_unop op x)
  exact ⟨N, x, d, rv.c, ed, fun z rz => q1 H1 (Ext.refl _) t1 z (RepF.of rz)⟩
theorem s_not (g : Good X G) (h1 : Snd X G W e1 A1 f1) : Snd X G W (.UnaryOp .Not e1 pos) (fun _ => A1 false) fun δ => (f1 δ).bind fun x => (truth x).bind fun k => .ok (.bool (!k)) := by
  refine ⟨fun fl => ?_, ?_, fun _ _ _ z => nomatch z⟩
  · refine pe_imp (pe_notT (h1.pe false)) fun σ H Q q => ?_
    obtain ⟨N, δ, at_, q⟩ := q
    refine ⟨N, δ, at_, q.bind fun x H1 x1 t1 q1 v rv => ?_⟩
    skip
    cases ek : truth x with
    | ok k => rw [ek] at q1; exact ⟨k, by rw [g.k]; exact tru_D rv.c ek, q1.ok t1 _ (RepF.of (.bl _))⟩
    | exc c => exact absurd ek (quiet_truth x c)
    | bad => rw [ek] at q1; exact q1.elim
  · refine pt_imp (pt_not h1.pt) fun σ H Q q => ?_
    obtain ⟨N, δ, at_, q⟩ := q
    refine ⟨N, δ, at_, ?_⟩
    dsimp only at q ⊢
    cases e1 : f1 δ with
    | ok x =>
      rw [e1] at q
      dsimp only [R.bind] at q ⊢
      cases e2 : truth x with
      | ok k => rw [e2] at q; exact q
      | exc c => exact absurd e2 (quiet_truth x c)
      | bad => rw [e2] at q; exact q
    | exc c => rw [e1] at q; exact q
    | bad => rw [e1] at q; exact q
theorem s_cmp (g : Good X G) {op : CmpOp} (h1 : Snd X G W e1 A1 f1) (h2 : Snd X G W e2 A2 f2) (hm : behindInMarks op e2 = false) :
    Snd X G W (.Compare e1 [op] [e2] pos) (fun _ => A1 false ++ A2 false) fun δ => (f1 δ).bind fun x => (f2 δ).bind fun y => (cmpop op x y).bind fun k => .ok (.bool k) := by
  refine ⟨fun fl => ?_, ?_, fun _ _ _ z => nomatch z⟩
  · refine pe_imp (pe_cmpR (cmp_D g op) (h1.pe false) (h2.pe false) hm) fun σ H Q q => ?_
    obtain ⟨N, δ, at_, q⟩ := q
    refine ⟨N, δ, at_.l, q.bind fun x H1 x1 t1 q1 v rv => ⟨N, δ, at_.r.ext x1 t1, q1.bind fun y H2 x2 t2 q2 w rw => ?_⟩⟩
    skip
    cases ek : cmpop op x y with
    | ok k => rw [ek] at q2; exact ⟨N, x, y, k, rv.c.ext x2, rw.c, ek, q2.ok t2 _ (RepF.of (.bl _))⟩
    | exc c => exact absurd ek (quiet_cmpop op x y c)
    | bad => rw [ek] at q2; exact q2.elim
  · refine pt_imp (pt_cmpR (cmp_D g op) (h1.pe false) (h2.pe false) hm) fun σ H Q q => ?_
    obtain ⟨N, δ, at_, q⟩ := q
    refine ⟨N, δ, at_.l, ?_⟩
    dsimp only at q
    cases e1 : f1 δ with
    | ok x =>
      rw [e1] at q
      dsimp only [R.bind] at q
      intro H1 x1 t1 v rv
      refine ⟨N, δ, at_.r.ext x1 t1, ?_⟩
      cases e2 : f2 δ with
      | ok y =>
        rw [e2] at q
        dsimp only at q
        intro H2 x2 t2 w rw_
        cases ek : cmpop op x y with
        | ok k => rw [ek] at q; exact ⟨N, x, y, k, rv.c.ext x2, rw_.c, ek, k, rfl, q H2 (x1.trans x2) t2⟩
        | exc c => exact absurd ek (quiet_cmpop op x y c)
        | bad => rw [ek] at q; exact q.elim
      | exc c => rw [e2] at q; exact Fin.ext (r := R.exc c) q x1
      | bad => rw [e2] at q; exact q.elim
    | exc c => rw [e1] at q; exact q
    | bad => rw [e1] at q; exact q.elim
theorem s_ite (g : Good X G) (h1 : Snd X G W e1 A1 f1) (h2 : Snd X G W e2 A2 f2) (h3 : Snd X G W e3 A3 f3) :
    Snd X G W (.IfExp e1 e2 e3 pos) (fun fl => A1 false ++ (A2 fl ++ A3 fl)) fun δ => (f1 δ).bind fun x => (truth x).bind fun k => if k = true then f2 δ else f3 δ := by
  have as : ∀ δ : Env, ((f1 δ).bind fun x => (truth x).bind fun k => if k = true then f2 δ else f3 δ) = ((f1 δ).bind truth).bind fun k => if k = true then f2 δ else f3 δ := fun δ => by cases f1 δ <;> rfl
  refine ⟨fun fl => ?_, ⟨fun pins s σ H Q I q => ?_⟩, fun _ _ _ z => nomatch z⟩
  · refine pe_imp (pe_ifExp h1.pt (h2.pe fl) (h3.pe fl)) fun σ H Q q => ?_
    obtain ⟨N, δ, at_, q⟩ := q
    replace q := q.eq (as δ)
    refine ⟨N, δ, at_.l, q.bind fun k H1 x1 t1 q1 => ?_⟩
    cases k with
    | true => exact ⟨N, δ, at_.r.l.ext x1 t1, q1⟩
    | false => exact ⟨N, δ, at_.r.r.ext x1 t1, q1⟩
  · obtain ⟨N, δ, at_, q⟩ := q
    have as2 : (((f1 δ).bind fun x => (truth x).bind fun k => if k = true then f2 δ else f3 δ).bind truth) = ((f1 δ).bind truth).bind fun k => if k = true then (f2 δ).bind truth else (f3 δ).bind truth := by
      cases f1 δ with
      | ok x => dsimp only [R.bind]; cases truth x with
        | ok k => dsimp only; cases k <;> rfl
        | exc c => rfl
        | bad => rfl
      | exc c => rfl
      | bad => rfl
    replace q := q.eq as2
    show wpAny _ _ (do if ← isTrue e1 X.env (eval e1 X.env) then isTrue e2 X.env (eval e2 X.env) else isTrue e3 X.env (eval e3 X.env)) _ _ _
    refine wpAny_bind (thn (h1.pt.run pins s σ H (fun k H1 => rdT G W (A2 false ++ A3 false) (fun δ => if k = true then (f2 δ).bind truth else (f3 δ).bind truth) σ H1 Q) I ⟨N, δ, at_.l, q.bind fun k H1 x1 t1 q1 => ⟨N, δ, at_.r.ext x1 t1, q1⟩⟩) fun k s1 ⟨H1, I1, N', δ', at', q1⟩ => ?_)
    cases k with
    | true => exact h2.pt.run pins s1 σ H1 Q I1 ⟨N', δ', at'.l, q1⟩
    | false => exact h3.pt.run pins s1 σ H1 Q I1 ⟨N', δ', at'.r, q1⟩
theorem s_ix (g : Good X G) (h1 : Snd X G W e1 A1 f1) (h2 : Snd X G W e2 A2 f2) (hs : PlainIx e2) :
    Snd X G W (.Subscript e1 e2 pos) (fun _ => A1 false ++ A2 false) fun δ => (f1 δ).bind fun x => (f2 δ).bind fun y => index x y := by
  refine .plain g (fun fl => ?_) (fun _ => rfl) fun _ _ _ z => nomatch z
  refine pe_imp (pe_ix (ix_D g) (h1.pe false) (h2.pe false) hs) fun σ H Q q => ?_
  obtain ⟨N, δ, at_, q⟩ := q
  refine ⟨N, δ, at_.l, q.bind fun x H1 x1 t1 q1 v rv => ⟨N, δ, at_.r.ext x1 t1, q1.bind fun y H2 x2 t2 q2 w rw => ?_⟩⟩
  obtain ⟨d, ed, q2⟩ := q2.quiet (quiet_index x y)
  exact ⟨N, x, y, d, rv.c.ext x2, rw.c, ed, fun z rz => q2 H2 (Ext.refl _) t2 z (RepF.of rz)⟩
/-! ### chains a < b < c -/
theorem s_chain (g : Good X G) {op op' : CmpOp} (h1 : Snd X G W e1 A1 f1) (h2 : Snd X G W e2 A2 f2) (h3 : Snd X G W e3 A3 f3) (hm : lastMarks [op, op'] [e2, e3] = false) :
    Snd X G W (.Compare e1 [op, op'] [e2, e3] pos) (fun _ => A1 false ++ (A2 false ++ A3 false)) fun δ => (f1 δ).bind fun x => (f2 δ).bind fun y => (cmpop op x y).bind fun k =>
      if k = true then (f3 δ).bind fun z => (cmpop op' y z).bind fun k' => .ok (.bool k') else .ok (.bool false) := by
  have key : ∀ (σ : L2.St) (H : Hp) (Q : VK) (fl : Bool), rdE G W fl (A1 false ++ (A2 false ++ A3 false)) (fun δ => (f1 δ).bind fun x => (f2 δ).bind fun y => (cmpop op x y).bind fun k =>
      if k = true then (f3 δ).bind fun z => (cmpop op' y z).bind fun k' => .ok (.bool k') else .ok (.bool false)) σ H Q → tChain (rCmp G op) (rCmp G op') (rdE G W false (A1 false) f1) (rdE G W false (A2 false) f2) (rdE G W false (A3 false) f3) σ H Q := by
    intro σ H Q fl q
    obtain ⟨N, δ, at_, q⟩ := q
    refine ⟨N, δ, at_.l, q.bind fun x H1 x1 t1 q1 v rv => ⟨N, δ, at_.r.l.ext x1 t1, q1.bind fun y H2 x2 t2 q2 w rw_ => ?_⟩⟩
    skip
    cases ek : cmpop op x y with
    | ok k =>
      rw [ek] at q2
      refine ⟨N, x, y, k, rv.c.ext x2, rw_.c, ek, k, rfl, ?_⟩
      cases k with
      | false => exact Fin.ok (a := PyData.bool false) q2 t2 _ (RepF.of (.bl _))
      | true =>
        refine ⟨N, δ, ((at_.r.r.ext x1 t1).ext x2 t2), Fin.bind (r := f3 δ) (f := fun z => (cmpop op' y z).bind fun k' => R.ok (PyData.bool k')) q2 fun z H3 x3 t3 q3 u ru => ?_⟩
        cases ek2 : cmpop op' y z with
        | ok k' => rw [ek2] at q3; exact ⟨N, y, z, k', rw_.c.ext x3, ru.c, ek2, q3.ok t3 _ (RepF.of (.bl _))⟩
        | exc c => exact absurd ek2 (quiet_cmpop op' y z c)
        | bad => rw [ek2] at q3; exact q3.elim
    | exc c => exact absurd ek (quiet_cmpop op x y c)
    | bad => rw [ek] at q2; exact q2.elim
  refine ⟨fun fl => pe_imp (pe_chain (cmp_D g op) (cmp_D g op') (h1.pe false) (h2.pe false) (h3.pe false) hm) fun σ H Q q => key σ H Q fl q, ?_, fun _ _ _ z => nomatch z⟩
  refine pt_imp (pt_chain (cmp_D g op) (cmp_D g op') (h1.pe false) (h2.pe false) (h3.pe false) hm) fun σ H Q q => key σ H _ false ?_
  obtain ⟨N, δ, at_, q⟩ := q
  refine ⟨N, δ, at_, q.bindE fun d H1 ed x1 t1 q1 v rv => ?_⟩
  have hd : ∃ k, d = .bool k := by
    skip
    cases e1 : f1 δ with
    | ok x =>
      rw [e1] at ed
      dsimp only [R.bind] at ed
      cases e2 : f2 δ with
      | ok y =>
        rw [e2] at ed
        dsimp only at ed
        cases e4 : cmpop op x y with
        | ok k =>
          rw [e4] at ed
          dsimp only at ed
          cases k with
          | false => cases ed; exact ⟨_, rfl⟩
          | true =>
            rw [if_pos rfl] at ed
            cases e3 : f3 δ with
            | ok z =>
              rw [e3] at ed
              dsimp only at ed
              cases e5 : cmpop op' y z with
              | ok k' => rw [e5] at ed; cases ed; exact ⟨_, rfl⟩
              | exc c => rw [e5] at ed; cases ed
              | bad => rw [e5] at ed; cases ed
            | exc c => rw [e3] at ed; cases ed
            | bad => rw [e3] at ed; cases ed
        | exc c => rw [e4] at ed; cases ed
        | bad => rw [e4] at ed; cases ed
      | exc c => rw [e2] at ed; cases ed
      | bad => rw [e2] at ed; cases ed
    | exc c => rw [e1] at ed; cases ed
    | bad => rw [e1] at ed; cases ed
  obtain ⟨k, rfl⟩ := hd
  obtain rfl := rv.c.bool
  exact ⟨k, rfl, Fin.ok (a := k) q1 t1⟩
end
end EV

set_option Elab.async false
set_option linter.all false
set_option maxRecDepth 100000
set_option maxHeartbeats 1000000
/-! EvI: and/or, arguments, displays, calls; the context of a text. -/
namespace EV
open PySem PySem.Spec PyProof.Rows L2

/-- what is known of a text without running it: the slots' names, the scope, which cells may be set, the defs (name, parameters, defaults), the constants -/
structure Cn where
  N : List Str
  sc : Scope
  fn : Str → Bool
  fns : List (Str × Nat × Nat)
  gls : List Str
  gens : Bool
/-- a def's promise -/
def spE (G : Wd) (n : Nat) (f : List D → R D) : Sp := fun vs H Q E => ∃ N ds, NewOk N H ∧ TabsOk G.T H ∧ Reps G.K N H vs ds ∧ vs.length = n ∧
  match f ds with
  | .ok d => ∀ H' v, Ext H H' → TabsOk G.T H' → Rep G.K N H' v d → Q v H'
  | .exc c => ∀ H', Ext H H' → TabsOk G.T H' → E (G.cls c) none H'
  | .bad => False
/-- what is known of a def at a call -/
structure FnC (X : Cx) (G : Wd) (m : Nat) (x : Str) (n : Nat) (dv : List D) (f : List D → R D) : Prop where
  ar : ∀ ds, ds.length ≠ n → f ds = .bad
  ex : ∃ a fd ps k, ps.length = n ∧ X.mg x = some (.ref a) ∧ PySem.W.keepIn X.K (.ref a) = true ∧
    (∀ j, j ≤ dv.length → ∃ dvs us, Vals dvs us ∧ Binds X.K fd ps us ∧ ∀ N H, Reps G.K N H dvs (dv.drop j)) ∧
    FnOk X.prog X.w X.K X.mg X.base (L2.CX X.prog X.w) k a fd ps (spE G n f) ∧ Room (k + m) X.A
def biNames : List Str := ["len", "abs", "int", "tuple", "list", "sum", "min", "max", "range", "enumerate", "zip", "reversed", "isinstance", "all", "any", "str", "bool", "dict", "sorted"]
/-- a context that runs a text -/
structure Fit (X : Cx) (G : Wd) (W : WX) (Z : Sem0) (c : Cn) : Prop where
  k : X.K = G.K
  calm : X.calm = true
  room : Room c.gens.toNat X.A
  N : X.N = c.N
  sc : X.env.scope = c.sc
  fn : ∀ x, c.fn x = true → X.fn x = true
  nd : c.N.Nodup
  bl : ∀ x ∈ biNames, X.mg x = none
  gl : ∀ (g : Nat) (x : Str), c.gls[g]? = some x → ∃ u v d, X.mg x = some u ∧ RelV v u ∧ Z.glob g = .ok d ∧ ∀ N H, Rep G.K N H v d
  tk : Takes X W
  cx : c.gens = true → ∃ cc P, GxR.TabB X.base X.mg cc P ∧ X.env.code = .ref cc ∧ P ∈ G.T
  calls : ∀ (f : Nat) (x : Str) (n nd : Nat), c.fns[f]? = some (x, n, nd) → (Z.dflt f).length = nd ∧ FnC X G c.gens.toNat x n (Z.dflt f) (Z.call f)
theorem Fit.good {X : Cx} {G : Wd} {W : WX} {Z : Sem0} {c : Cn} (F : Fit X G W Z c) : Good X G := ⟨F.k, F.calm, by have := F.room.un; omega⟩

section
variable {X : Cx} {G : Wd} {W : WX} {e e1 e2 e3 : Expr} {es : List Expr} {A A1 A2 A3 : Bool → List Nat} {f f1 f2 f3 : Env → R D} {fr : Env → R (List D)} {pos : Pos}
/-! ### and, or -/
def boOp : Bool → BoolOp
  | true => .And
  | false => .Or
theorem s_one (g : Good X G) {op : BoolOp} (h : Snd X G W e A f) : Snd X G W (.BoolOp op [e] pos) A f := by
  have w : PW X (.BoolOp op [e] pos) (rdT G W (A false) fun δ => (f δ).bind truth) := by
    cases op with
    | And => exact pw_and1 h.pt
    | Or => exact pw_or1 h.pt
  exact ⟨fun fl => pe_one (h.pe fl), w.pt, fun op' vs' pos' z => by cases z; exact w⟩
theorem bop_tests {isAnd : Bool} {δ : Env} : (((f1 δ).bind fun x => (truth x).bind fun k => if k = isAnd then f2 δ else R.ok x).bind truth) = ((f1 δ).bind truth).bind fun k => if k = isAnd then (f2 δ).bind truth else .ok k := by
  cases f1 δ with
  | ok x =>
    dsimp only [R.bind]
    cases e : truth x with
    | ok k =>
      dsimp only
      by_cases h : k = isAnd
      · rw [if_pos h, if_pos h]
      · rw [if_neg h, if_neg h]; exact e
    | exc c => rfl
    | bad => rfl
  | exc c => rfl
  | bad => rfl
theorem s_bop (g : Good X G) {isAnd : Bool} {rest : List Expr} (h1 : Snd X G W e1 A1 f1) (h2 : Snd X G W (.BoolOp (boOp isAnd) (e2 :: rest) pos) A2 f2) :
    Snd X G W (.BoolOp (boOp isAnd) (e1 :: e2 :: rest) pos) (fun fl => A1 fl ++ (A1 false ++ A2 fl)) fun δ => (f1 δ).bind fun x => (truth x).bind fun k => if k = isAnd then f2 δ else .ok x := by
  have w : PW X (.BoolOp (boOp isAnd) (e1 :: e2 :: rest) pos) (rdT G W (A1 false ++ (A1 false ++ A2 false)) fun δ => ((f1 δ).bind fun x => (truth x).bind fun k => if k = isAnd then f2 δ else .ok x).bind truth) := by
    have h2w := h2.pw _ _ _ rfl
    cases isAnd with
    | true =>
      refine ⟨fun wh pins s σ H Q I q => (pw_and h1.pt h2w).run wh pins s σ H Q I ?_⟩
      obtain ⟨N, δ, at_, q⟩ := q
      refine ⟨N, δ, at_.l, Fin.bind (r := (f1 δ).bind truth) (q.eq bop_tests) fun k H1 x1 t1 q1 => ?_⟩
      cases k with
      | true => exact ⟨N, δ, at_.r.r.ext x1 t1, q1⟩
      | false => exact Fin.ok (a := false) q1 t1
    | false =>
      refine ⟨fun wh pins s σ H Q I q => (pw_or h1.pt h2w).run wh pins s σ H Q I ?_⟩
      obtain ⟨N, δ, at_, q⟩ := q
      refine ⟨N, δ, at_.l, Fin.bind (r := (f1 δ).bind truth) (q.eq bop_tests) fun k H1 x1 t1 q1 => ?_⟩
      cases k with
      | false => exact ⟨N, δ, at_.r.r.ext x1 t1, q1⟩
      | true => exact Fin.ok (a := true) q1 t1
  refine ⟨fun fl => ?_, w.pt, fun op vs pos z => by cases z; exact w⟩
  have key : ∀ (σ : L2.St) (H : Hp) (Q : VK), rdE G W fl (A1 fl ++ (A1 false ++ A2 fl)) (fun δ => (f1 δ).bind fun x => (truth x).bind fun k => if k = isAnd then f2 δ else R.ok x) σ H Q →
      rdE G W fl (A1 fl) f1 σ H fun x H1 => ∃ k, TruV X.K x H1 k ∧ if k = isAnd then rdE G W fl (A2 fl) f2 σ H1 Q else Q x H1 := by
    intro σ H Q q
    obtain ⟨N, δ, at_, q⟩ := q
    refine ⟨N, δ, at_.l, q.bind fun x H1 x1 t1 q1 v rv => ?_⟩
    cases ek : truth x with
    | ok k =>
      rw [ek] at q1
      refine ⟨k, by rw [g.k]; exact tru_D rv.c ek, ?_⟩
      dsimp only [R.bind] at q1
      by_cases h : k = isAnd
      · rw [if_pos h] at q1; rw [if_pos h]; exact ⟨N, δ, at_.r.r.ext x1 t1, q1⟩
      · rw [if_neg h] at q1; rw [if_neg h]; exact Fin.ok (a := x) q1 t1 v rv
    | exc c => exact absurd ek (quiet_truth x c)
    | bad => rw [ek] at q1; exact q1.elim
  cases isAnd with
  | true => exact pe_imp (pe_andT (h1.pe fl) (h2.pe fl)) key
  | false =>
    refine pe_imp (pe_orT (h1.pe fl) (h2.pe fl)) fun σ H Q q => ?_
    obtain ⟨N, δ, a, q⟩ := key σ H Q q
    refine ⟨N, δ, a, q.imp fun d H1 x1 t1 q v rv => ?_⟩
    obtain ⟨k, e, q⟩ := q v rv
    refine ⟨k, e, ?_⟩
    cases k with
    | true => exact q
    | false => exact q

/-! ### arguments -/
structure SndA (X : Cx) (G : Wd) (W : WX) (es : List Expr) (A : Bool → List Nat) (f : Env → R (List D)) : Prop where
  pa : ∀ fl, PA X es (rdA G W fl (A fl) f)
  len : ∀ δ ds, f δ = .ok ds → ds.length = es.length
theorem a_nil : SndA X G W [] (fun _ => []) fun _ => .ok [] := ⟨fun fl => j_nil, fun _ _ e => by cases e; rfl⟩
theorem a_cons (h : Snd X G W e A1 f1) (hr : SndA X G W es A2 fr) (hs : starEach (e :: es) X.env = (false, eval e X.env) :: starEach es X.env) :
    SndA X G W (e :: es) (fun fl => A1 fl ++ A2 fl) fun δ => (f1 δ).bind fun x => (fr δ).bind fun xs => .ok (x :: xs) := by
  refine ⟨fun fl => j_cons (h.pe fl) (hr.pa fl) hs, fun δ ds ed => ?_⟩
  cases e1 : f1 δ with
  | ok x =>
    rw [e1] at ed
    cases e2 : fr δ with
    | ok xs =>
      rw [e2] at ed
      cases ed
      show xs.length + 1 = es.length + 1
      rw [hr.len δ xs e2]
    | exc c => rw [e2] at ed; cases ed
    | bad => rw [e2] at ed; cases ed
  | exc c => rw [e1] at ed; cases ed
  | bad => rw [e1] at ed; cases ed
/-! ### displays -/
theorem s_tup (g : Good X G) {k : Nat} (hr : SndA X G W es A fr) (hl : es.length ≤ 1000) : Snd X G W (.Tuple es k pos) (fun _ => A true) fun δ => (fr δ).bind fun ds => .ok (.tuple ds) :=
  .plain g (fun fl => j_tup (hr.pa true) fun δ ds e => by rw [hr.len δ ds e]; exact hl) (fun _ => rfl) fun _ _ _ z => nomatch z
theorem s_lst (g : Good X G) (hr : SndA X G W es A fr) (hl : es.length ≤ 1000) : Snd X G W (.List es pos) (fun _ => A true) fun δ => (fr δ).bind fun ds => .ok (.list ds) :=
  .plain g (fun fl => j_lst (hr.pa true) fun δ ds e => by rw [hr.len δ ds e]; exact hl) (fun _ => rfl) fun _ _ _ z => nomatch z
theorem s_rep (g : Good X G) {lpos : Pos} (hr : SndA X G W es A fr) (hl : es.length ≤ 1000) (h2 : Snd X G W e2 A2 f2) :
    Snd X G W (.BinOp (.List es lpos) .Mult e2 pos) (fun _ => A true ++ A2 false) fun δ => (fr δ).bind fun ds => (f2 δ).bind fun y => repL ds y := by
  refine .plain g (fun fl => ?_) (fun _ => rfl) fun _ _ _ z => nomatch z
  refine pe_imp (pe_op op_rep (pe_lst (hr.pa true)) (h2.pe false)) fun σ H Q q => ?_
  obtain ⟨N, δ, at_, q⟩ := q
  refine ⟨N, δ, at_.l, Fin.bindE q fun ds H1 ed x1 t1 q1 vs rvs => ?_⟩
  have hz : vs.length ≤ 1000 := by rw [paired_len rvs, hr.len δ ds ed]; exact hl
  refine ⟨by rw [sizeLine_eq]; omega, fun p hp => ?_⟩
  have q2 := q1.ext (Ext.new hp (o := .lst vs))
  refine ⟨N, δ, (at_.r.ext x1 t1).ext (Ext.new hp) (t1.new hp), q2.bind fun y H2 x2 t2 q3 w rw_ => ?_⟩
  unfold repL at q3
  split at q3
  · rename_i k
    by_cases hc : (decide (-9223372036854775808 ≤ k) && decide (k < 9223372036854775808) && decide (ds.length * k.toNat ≤ LN)) = true
    · rw [if_pos hc] at q3
      simp only [Bool.and_eq_true, decide_eq_true_eq] at hc
      have hvl : vs.length = ds.length := paired_len rvs
      refine ⟨p, k, vs, rfl, rw_.c.int, x2.keep p _ upd_same (fun _ z => by cases z), by omega, by omega, by rw [hvl, ← LN_line]; exact hc.2, fun p' hp' => ?_⟩
      have n2 := ((at_.new.ext x1).ext (Ext.new hp (o := .lst vs))).ext x2
      refine q3 _ (Ext.new hp') (t2.new hp') _ (RepF.of (newLst n2 hp' ?_ (((((repsF_t rvs).ext (Ext.new hp)).ext x2)).rep _)))
      rw [PyProof.Rows.lm_len_rep_flat, hvl, Nat.mul_comm]
      exact hc.2
    · rw [if_neg hc] at q3; exact q3.elim
  · exact q3.elim
/-! ### built-in calls -/
theorem repsF_imp {fl : Bool} {K : PySem.W.Frag} {N : Addr → Prop} {H : Hp} : ∀ {vs : List V} {ds : List D}, RepsF fl K N H vs ds → RepsF false K N H vs ds
  | _, _, .nil => .nil
  | _, _, .cons a b => .cons a.c (repsF_imp b)
def biName : Bi → Str
  | .len => "len"
  | .abs => "abs"
  | .int => "int"
  | .tuple => "tuple"
  | .list => "list"
  | .sum => "sum"
  | .min => "min"
  | .max => "max"
  | .bitlen => "bit_length"
theorem biName_boot : ∀ f : Bi, f ≠ .bitlen → bootBuiltins (biName f) = some (biId f) ∧ biName f ≠ "__name__" ∧ (biName f == ("__debug__" : Str)) = false ∧ biName f ∈ biNames
  | .len, _ => by decide +kernel
  | .abs, _ => by decide +kernel
  | .int, _ => by decide +kernel
  | .tuple, _ => by decide +kernel
  | .list, _ => by decide +kernel
  | .sum, _ => by decide +kernel
  | .min, _ => by decide +kernel
  | .max, _ => by decide +kernel
  | .bitlen, h => absurd rfl h
theorem s_bi (g : Good X G) {b : Bi} {p : Pos} (hb : b ≠ .bitlen) (hm : X.mg (biName b) = none) (hg : Gl X (biName b)) (hr : SndA X G W (e :: es) A fr) (hs : starEach (e :: es) X.env = (false, eval e X.env) :: starEach es X.env) (hpl : (backTo pos (starEach es X.env)).any (·.1) = false) :
    Snd X G W (.Call (.Name (biName b) p) (e :: es) [] pos) (fun _ => A false) fun δ => (fr δ).bind fun ds => bicall b ds := by
  refine .plain g (fun fl => ?_) (fun _ => rfl) fun _ _ _ z => nomatch z
  have w : ∀ σ H Q, rdE G W fl (A false) (fun δ => (fr δ).bind fun ds => bicall b ds) σ H Q → tCB (rBi G b) (rdA G W false (A false) fr) σ H Q := fun σ H Q q => by
    obtain ⟨N, δ, at_, q⟩ := q
    refine ⟨N, δ, at_, q.bind fun ds H1 x1 t1 q1 vs rvs => ?_⟩
    obtain ⟨d, ed, q1⟩ := q1.quiet (quiet_bicall b ds)
    exact ⟨N, ds, d, at_.new.ext x1, t1, rvs, ed, fun z H' x' t' rz => q1 H' x' t' z (RepF.of rz)⟩
  obtain ⟨h1, h2, h3, _⟩ := biName_boot b hb
  have hc := bi_D g b hb
  cases b with
  | int => exact pe_imp (pe_callTy (T := "int") hc hg hm h1 (hr.pa false) h2 h3 hs hpl) w
  | tuple => exact pe_imp (pe_callTy (T := "tuple") hc hg hm h1 (hr.pa false) h2 h3 hs hpl) w
  | list => exact pe_imp (pe_callTy (T := "list") hc hg hm h1 (hr.pa false) h2 h3 hs hpl) w
  | len => exact pe_imp (pe_callB (id := "len") hc hg hm h1 (hr.pa false) h2 h3 hs hpl) w
  | abs => exact pe_imp (pe_callB (id := "abs") hc hg hm h1 (hr.pa false) h2 h3 hs hpl) w
  | sum => exact pe_imp (pe_callB (id := "sum") hc hg hm h1 (hr.pa false) h2 h3 hs hpl) w
  | min => exact pe_imp (pe_callB (id := "min") hc hg hm h1 (hr.pa false) h2 h3 hs hpl) w
  | max => exact pe_imp (pe_callB (id := "max") hc hg hm h1 (hr.pa false) h2 h3 hs hpl) w
  | bitlen => exact absurd rfl hb
theorem s_bits (g : Good X G) {apos : Pos} (h : Snd X G W e A f) (hbase : attributeBase e "bit_length" X.env (eval e X.env) = eval e X.env) (hline : (apos.endLine == pos.line) = true) :
    Snd X G W (.Call (.Attribute e "bit_length" apos) [] [] pos) (fun _ => A false) fun δ => (f δ).bind fun x => bicall .bitlen [x] := by
  refine .plain g (fun fl => ?_) (fun _ => rfl) fun _ _ _ z => nomatch z
  refine pe_imp (pe_bits (h.pe false) hbase hline) fun σ H Q q => ?_
  obtain ⟨N, δ, at_, q⟩ := q
  refine ⟨N, δ, at_, q.bind fun x H1 x1 t1 q1 v rv => ?_⟩
  obtain ⟨d, ed, q1⟩ := q1.quiet (quiet_bicall _ _)
  have hx : ∃ i, x = .int i ∧ d = .int (Builtin.Int.intBits i) := by
    cases x <;> first | exact ⟨_, rfl, ok_inj ed⟩ | cases ed
  obtain ⟨i, rfl, rfl⟩ := hx
  exact ⟨i, rv.c.int, q1 H1 (Ext.refl _) t1 _ (RepF.of (.int _))⟩
/-! ### isinstance -/
theorem s_isi (g : Good X G) {ty : Ty} {p p2 : Pos} (hm : X.mg "isinstance" = none) (hg : Gl X "isinstance") (hm2 : X.mg (tyName ty : Str) = none) (hg2 : Gl X (tyName ty : Str)) (h : Snd X G W e A f)
    (hs : starEach (e :: [.Name (tyName ty : Str) p2]) X.env = (false, eval e X.env) :: starEach [.Name (tyName ty : Str) p2] X.env) (hpl : (backTo pos (starEach [.Name (tyName ty : Str) p2] X.env)).any (·.1) = false) :
    Snd X G W (.Call (.Name "isinstance" p) [e, .Name (tyName ty : Str) p2] [] pos) (fun _ => A false) fun δ => (f δ).bind fun x => (isTy ty x).bind fun k => .ok (.bool k) := by
  refine .plain g (fun fl => ?_) (fun _ => rfl) fun _ _ _ z => nomatch z
  have e2 : PE X (.Name (tyName ty : Str) p2) (tC (.ty (tyName ty))) := by
    have bt : bootBuiltins (tyName ty : Str) = some (.type (tyName ty)) ∧ (tyName ty : Str) ≠ "__name__" ∧ ((tyName ty : Str) == ("__debug__" : Str)) = false := by cases ty <;> decide +kernel
    exact pe_bltn hg2 hm2 bt.1 rfl bt.2.1 bt.2.2
  refine pe_imp (pe_callB (isi_D g ty) hg hm (by decide +kernel) (pa_cons (h.pe false) (pa_cons e2 pa_nil rfl) hs) (by decide) (by decide) hs hpl) fun σ H Q q => ?_
  obtain ⟨N, δ, at_, q⟩ := q
  refine ⟨N, δ, at_, q.bind fun x H1 x1 t1 q1 v rv => ?_⟩
  cases ek : isTy ty x with
  | ok k => rw [ek] at q1; exact ⟨v, N, x, k, rfl, rv.c, ek, Fin.ok (a := PyData.bool k) q1 t1 _ (RepF.of (.bl k))⟩
  | exc c => exact absurd ek (quiet_isTy ty x c)
  | bad => rw [ek] at q1; exact q1.elim
/-! ### calls of defs -/
theorem s_call (g : Good X G) {m n : Nat} {x : Str} {dv dv' : List D} {fc : List D → R D} {p : Pos} (tk : Takes X W) (F : FnC X G m x n dv fc) (hg : Gl X x) (hr : SndA X G W (e :: es) A fr) (hdv : ∃ j, j ≤ dv.length ∧ dv' = dv.drop j)
    (hdb : (x == ("__debug__" : Str)) = false) (hs : starEach (e :: es) X.env = (false, eval e X.env) :: starEach es X.env) (hpl : (backTo pos (starEach es X.env)).any (·.1) = false) :
    Snd X G W (.Call (.Name x p) (e :: es) [] pos) (fun _ => A true) fun δ => (fr δ).bind fun ds => fc (ds ++ dv') := by
  refine .plain g (fun fl => ?_) (fun _ => rfl) fun _ _ _ z => nomatch z
  obtain ⟨j, hj, rfl⟩ := hdv
  obtain ⟨a, fd, ps, k, hn, hm, hk, hb, fo, rm⟩ := F.ex
  obtain ⟨dvs, us, v1, b1, r1⟩ := hb j hj
  refine pe_imp (pe_callSD (E := WE W) fo (rm.mono (Nat.le_add_right _ _)) hg hm hk b1 v1 (fun σ => passAt tk σ) (hr.pa true) hdb hs hpl) fun σ H Q q => ?_
  obtain ⟨N, δ, at_, q⟩ := q
  refine ⟨N, δ, at_, q.bind fun ds H1 x1 t1 q1 vs rvs => ?_⟩
  have rr := (repsF_t rvs).app (r1 N H1)
  refine ⟨N, ds ++ dv.drop j, at_.new.ext x1, t1, rr, ?_, ?_⟩
  · rw [rr.length]
    by_cases h : (ds ++ dv.drop j).length = n
    · exact h
    · rw [F.ar _ h] at q1; exact q1.elim
  · cases ez : fc (ds ++ dv.drop j) with
    | ok d => rw [ez] at q1; exact fun H' v x' t' rv => q1 H' x' t' v (RepF.of rv)
    | exc c => rw [ez] at q1; exact q1
    | bad => rw [ez] at q1; exact q1.elim
end
end EV

set_option Elab.async false
set_option linter.all false
set_option maxRecDepth 100000
set_option maxHeartbeats 1000000
/-! EvJ: what loops and comprehensions walk; their targets. -/
namespace EV
open PySem PySem.Spec PyProof.Rows L2

/-- what a turn gives: a value that stands, or a new tuple -/
inductive Item where
  | one (v : V)
  | tup (xs : List V)
def Item.Y : Item → Hp → V → Hp → Prop
  | .one v, H, x, H' => H' = H ∧ x = v
  | .tup xs, H, x, H' => ∃ T, x = .ref T ∧ H T = none ∧ H' = upd H T (.tup xs)
def YI (is : List Item) : Nat → Hp → V → Hp → Prop := fun i H x H' => ∃ it, is[i]? = some it ∧ it.Y H x H'
def Stable (keep : Addr → Prop) (Gd : Hp → Prop) : Prop := ∀ H H', (∀ b, keep b → ∀ u, (∀ ps, u ≠ .tbl ps) → H b = some u → H' b = some u) → Gd H → Gd H'
inductive ItemR (K : PySem.W.Frag) (N : Addr → Prop) (H : Hp) : Item → D → Prop
  | one {v : V} {d : D} : Rep K N H v d → ItemR K N H (.one v) d
  | tup {xs : List V} {ds : List D} : Reps K N H xs ds → xs.length ≤ 3 → ItemR K N H (.tup xs) (.tuple ds)
theorem ItemR.to {K : PySem.W.Frag} {N N' : Addr → Prop} {H H' : Hp} (h : ∀ a u, N a → isData u = true → Rd H a u → Rd H' a u ∧ N' a) {it : Item} {d : D} (r : ItemR K N H it d) : ItemR K N' H' it d := by
  cases r with
  | one r => exact .one (r.to h)
  | tup r l => exact .tup (r.to h) l
/-- the turn's value, in the heap behind it -/
theorem ItemR.yield {G : Wd} {N : Addr → Prop} {H H' : Hp} {it : Item} {d : D} {x : V} (r : ItemR G.K N H it d) (y : it.Y H x H') (n : NewOk N H) (t : TabsOk G.T H) : Rep G.K N H' x d ∧ Ext H H' ∧ TabsOk G.T H' := by
  cases r with
  | one r =>
    obtain ⟨rfl, rfl⟩ := y
    exact ⟨r, Ext.refl _, t⟩
  | tup r l =>
    obtain ⟨T, rfl, hT, rfl⟩ := y
    exact ⟨newTup n hT (by show _ ≤ 16777216; omega) r, Ext.new hT, t.new hT⟩
theorem pair_get {α β : Type} {F : α → β → Prop} : ∀ {xs : List α} {ys : List β} {i : Nat} {y : β}, Paired F xs ys → ys[i]? = some y → ∃ x, xs[i]? = some x ∧ F x y
  | _, _, _, _, .nil, e => by simp at e
  | _, _, 0, _, .cons r _, e => by simp at e; subst e; exact ⟨_, rfl, r⟩
  | _, _, i + 1, y, .cons _ t, e => by
    obtain ⟨x, h1, h2⟩ := pair_get (i := i) (y := y) t (by simpa using e)
    exact ⟨x, by simpa using h1, h2⟩

section
variable (G : Wd) (W : WX)
/-- the reading of an iterable that gives f -/
def rdI (fl : Bool) (A : List Nat) (f : Env → R (List D)) : TI := fun σ H R => ∃ N δ, At G A N σ H δ ∧ Fin G W σ (f δ) H fun ds H' => ∀ J is keep Gd, Walk J is.length Gd (YI is) → Gd H' → Stable keep Gd → (fl = true → ∀ b, keep b → N b) → Paired (ItemR G.K N H') is ds → is.length ≤ LN → R J H'
end

/-! ### lists and tuples -/
theorem src_of {fl : Bool} {K : PySem.W.Frag} {N : Addr → Prop} {H : Hp} {v : V} {d : D} {ds : List D} (r : RepF fl K N H v d) (e : seq? d = some ds) :
    ∃ k a xs, v = .ref a ∧ xs.length ≤ LN ∧ Reps K N H xs ds ∧ ∃ (keep : Addr → Prop) (Gd : Hp → Prop), Gd H ∧ (∀ H, Gd H → SeqS K H k a xs) ∧ Stable keep Gd ∧ (fl = true → ∀ b, keep b → N b) := by
  have rdS : ∀ (a : Addr) (u : HO), (∀ ps, u ≠ .tbl ps) → Stable (fun b => b = a) (fun H => Rd H a u) := fun a u hu H H' k h => by
    rcases h with h | ⟨o, h⟩
    · exact .inl (k a rfl _ hu h)
    · exact .inr ⟨o, k a rfl _ (fun ps z => by cases z) h⟩
  have full : Rep K N H v d → ∃ k a xs, v = .ref a ∧ xs.length ≤ LN ∧ Reps K N H xs ds ∧ ∃ (keep : Addr → Prop) (Gd : Hp → Prop), Gd H ∧ (∀ H, Gd H → SeqS K H k a xs) ∧ Stable keep Gd ∧ (fl = true → ∀ b, keep b → N b) := fun r => by
    cases r with
    | lst q l rr =>
      cases e
      rcases q with ⟨q, n⟩ | q
      · exact ⟨true, _, _, rfl, l, rr, _, _, q, fun H h => .inl h, rdS _ _ (fun ps z => by cases z), fun _ b hb => by rw [hb]; exact n⟩
      · exact ⟨true, _, _, rfl, l, rr, fun _ => False, fun _ => True, trivial, fun H _ => .inr q, fun _ _ _ _ => trivial, fun _ b hb => hb.elim⟩
    | tup q l rr =>
      cases e
      rcases q with ⟨q, n⟩ | q
      · exact ⟨false, _, _, rfl, l, rr, _, _, q, fun H h => .inl h, rdS _ _ (fun ps z => by cases z), fun _ b hb => by rw [hb]; exact n⟩
      · exact ⟨false, _, _, rfl, l, rr, fun _ => False, fun _ => True, trivial, fun H _ => .inr q, fun _ _ _ _ => trivial, fun _ b hb => hb.elim⟩
    | _ => cases e
  cases fl with
  | true => exact full r
  | false =>
    have r : Repc K N H v d := r
    cases r with
    | of r => exact full r
    | lst h l rr =>
      cases e
      exact ⟨true, _, _, rfl, l, rr, _, _, .inl h, fun H h => .inl h, rdS _ _ (fun ps z => by cases z), fun z => nomatch z⟩
    | _ => cases e
def seqJ (K : PySem.W.Frag) : Bool → Addr → It
  | true => Itl K
  | false => Itt K
theorem walk_seq {K : PySem.W.Frag} {a : Addr} {xs : List V} : ∀ {k : Bool}, Walk (seqJ K k a) xs.length (fun H => SeqS K H k a xs) (YAt xs)
  | true => walk_list
  | false => walk_tup
theorem pi_seq {X : Cx} {tg l : Expr} {tl : TE} (hl : PE X l tl) : PI X tg l (fun σ H R => tl σ H fun x H1 => ∃ k a xs, x = .ref a ∧ SeqS X.K H1 k a xs ∧ R (seqJ X.K k a) H1) := by
  refine ⟨fun pins s σ H R I h => ?_⟩
  refine thn (hl.run pins s σ H _ I h) fun v s1 ⟨x, H1, I1, r1, q1⟩ => ?_
  obtain ⟨k, a, xs, e, hq, q⟩ := q1
  subst e
  cases r1
  cases k with
  | true =>
    obtain ⟨its, rv, p, hz⟩ := I1.list hq
    refine wpAny_pyIter_list p.isList ?_
    refine ⟨s1.heap.objs.size, [s1.heap.objs.size], _, _, H1, rfl, I1.kept (t' := s1.toks) fun b o e => Heap.get?_push_of_some _ e, turn_list a _, ⟨_, Heap.get?_push_size _ rfl, rfl, rfl⟩, fun b hb => ?_, q⟩
    have e : b = s1.heap.objs.size := by simpa using hb
    subst e
    exact I1.fpOk (Nat.le_refl _) (I1.hok.fresh (Nat.le_refl _))
  | false =>
    obtain ⟨its, rv, p, hz⟩ := I1.tuple hq
    refine wpAny_pyIter_tuple (show s1.heap.IsTuple a its.toArray from p) ?_
    refine ⟨s1.heap.objs.size, [s1.heap.objs.size], _, _, H1, rfl, I1.kept (t' := s1.toks) fun b o e => Heap.get?_push_of_some _ e, turn_tuple a _, ⟨_, Heap.get?_push_size _ rfl, rfl, rfl⟩, fun b hb => ?_, q⟩
    have e : b = s1.heap.objs.size := by simpa using hb
    subst e
    exact I1.fpOk (Nat.le_refl _) (I1.hok.fresh (Nat.le_refl _))
theorem ones {K : PySem.W.Frag} {N : Addr → Prop} {H : Hp} : ∀ {xs : List V} {ds : List D}, Reps K N H xs ds → Paired (ItemR K N H) (xs.map .one) ds
  | _, _, .nil => .nil
  | _, _, .cons r t => .cons (.one r) (ones t)
theorem walk_ones {J : It} {xs : List V} {Gd : Hp → Prop} (w : Walk J xs.length Gd (YAt xs)) : Walk J (xs.map Item.one).length Gd (YI (xs.map .one)) := by
  rw [List.length_map]
  refine w.mono (fun H h => h) fun i H x H' hi h y => ?_
  obtain ⟨e1, e2⟩ := y
  exact ⟨.one x, by rw [List.getElem?_map, e2]; rfl, e1, rfl⟩
theorem quiet_iterate (k : Itk) (as : List D) : Quiet (iterate k as) := by
  unfold iterate
  split
  all_goals first | exact quiet_ok | exact quiet_bad | exact quiet_ite quiet_ok quiet_bad | skip
  all_goals
    split
    all_goals first | exact quiet_ok | exact quiet_bad

section
variable {X : Cx} {G : Wd} {W : WX} {e e1 e2 e3 tg : Expr} {es : List Expr} {A A1 A2 A3 : Bool → List Nat} {f f1 f2 f3 : Env → R D} {fr : Env → R (List D)} {pos : Pos}
/-- an iterable, with and without an escape -/
def SndI (X : Cx) (G : Wd) (W : WX) (tg e : Expr) (A : Bool → List Nat) (f : Env → R (List D)) : Prop := ∀ fl, PI X tg e (rdI G W fl (A fl) f)
theorem pi_imp {t t' : TI} (h : PI X tg e t) (w : ∀ σ H R, t' σ H R → t σ H R) : PI X tg e t' := ⟨fun pins s σ H R I q => h.run pins s σ H R I (w σ H R q)⟩
theorem i_plain (g : Good X G) (h : Snd X G W e A f) : SndI X G W tg e A fun δ => (f δ).bind fun x => iterate .plain [x] := by
  intro fl
  refine pi_imp (pi_seq (h.pe fl)) fun σ H R q => ?_
  obtain ⟨N, δ, at_, q⟩ := q
  refine ⟨N, δ, at_, q.bind fun x H1 x1 t1 q1 v rv => ?_⟩
  obtain ⟨ds, ed, q1⟩ := q1.quiet (quiet_iterate _ _)
  have es : seq? x = some ds := by
    cases x <;> first | (cases ed; rfl) | cases ed
  obtain ⟨k, a, xs, rfl, hl, hr, keep, Gd, h1, h2, h3, h4⟩ := src_of rv es
  rw [← g.k] at h2
  exact ⟨k, a, xs, rfl, h2 _ h1, q1 H1 (Ext.refl _) t1 _ _ keep Gd (walk_ones (walk_seq.mono h2 fun _ _ _ _ _ _ y => y)) h1 h3 h4 (ones hr) (by rw [List.length_map]; exact hl)⟩
theorem rangeItems {K : PySem.W.Frag} {N : Addr → Prop} {H : Hp} {lo : Int} {n : Nat} : Paired (ItemR K N H) ((List.range n).map fun i : Nat => Item.one (.int (lo + (i : Int)))) (rangeL lo n) := by
  unfold rangeL
  generalize List.range n = l
  induction l with
  | nil => exact .nil
  | cons a r ih => exact .cons (.one (.int _)) ih
theorem walk_rangeI {lo : Int} {n : Nat} : Walk (Itr lo n) ((List.range n).map fun i : Nat => Item.one (.int (lo + (i : Int)))).length (fun _ => True) (YI ((List.range n).map fun i : Nat => Item.one (.int (lo + (i : Int))))) := by
  rw [List.length_map, List.length_range]
  refine walk_range.mono (fun _ _ => trivial) fun i H x H' hi _ y => ?_
  obtain ⟨e1, e2⟩ := y
  exact ⟨.one (.int (lo + (i : Int))), by rw [List.getElem?_map, List.getElem?_range hi]; rfl, e1, e2⟩
theorem big62_of {i : Int} (h : big62 i = true) : -(2 ^ 62) ≤ i ∧ i < 2 ^ 62 := by
  unfold big62 at h
  simp only [Bool.and_eq_true, decide_eq_true_eq] at h
  exact ⟨by omega, by omega⟩
theorem vcons {fl : Bool} {K : PySem.W.Frag} {N : Addr → Prop} {H : Hp} {vs : List V} {ds : List D} (r : RepsF fl K N H vs ds) : Paired (Repc K N H) vs ds := repsF_imp r
theorem i_range1 (g : Good X G) {p : Pos} (hm : X.mg "range" = none) (hg : Gl X "range") (hr : SndA X G W [e] A fr) (hs : starEach [e] X.env = [(false, eval e X.env)]) :
    SndI X G W tg (.Call (.Name "range" p) [e] [] pos) (fun _ => A false) fun δ => (fr δ).bind fun ds => iterate .range ds := by
  intro fl
  refine pi_imp (pi_range1 hg hm (hr.pa false) hs) fun σ H R q => ?_
  obtain ⟨N, δ, at_, q⟩ := q
  refine ⟨N, δ, at_, Fin.bindE q fun ds H1 ed x1 t1 q1 vs rvs => ?_⟩
  obtain ⟨rs, er, q1⟩ := q1.quiet (quiet_iterate _ _)
  have hl := hr.len δ ds ed
  match ds, hl with
  | [d], _ =>
    obtain ⟨v, rfl, rv⟩ := repsF1 rvs
    cases d with
    | int n =>
      obtain ⟨hc, rfl⟩ := if_ok er
      rw [Bool.and_eq_true, decide_eq_true_eq] at hc
      obtain ⟨b1, b2⟩ := big62_of hc.1
      refine ⟨n, by rw [rv.c.int], b1, b2, q1 H1 (Ext.refl _) t1 _ _ (fun _ => False) (fun _ => True) walk_rangeI trivial (fun _ _ _ _ => trivial) (fun _ b hb => hb.elim) rangeItems ?_⟩
      rw [List.length_map, List.length_range]
      show _ ≤ 16777216
      omega
    | _ => cases er
theorem i_range2 (g : Good X G) {p : Pos} (hm : X.mg "range" = none) (hg : Gl X "range") (hr : SndA X G W [e, e2] A fr) (hs : starEach [e, e2] X.env = [(false, eval e X.env), (false, eval e2 X.env)]) (hs2 : starEach [e2] X.env = [(false, eval e2 X.env)]) :
    SndI X G W tg (.Call (.Name "range" p) [e, e2] [] pos) (fun _ => A false) fun δ => (fr δ).bind fun ds => iterate .range ds := by
  intro fl
  refine pi_imp (pi_range2 hg hm (hr.pa false) hs hs2) fun σ H R q => ?_
  obtain ⟨N, δ, at_, q⟩ := q
  refine ⟨N, δ, at_, Fin.bindE q fun ds H1 ed x1 t1 q1 vs rvs => ?_⟩
  obtain ⟨rs, er, q1⟩ := q1.quiet (quiet_iterate _ _)
  have hl := hr.len δ ds ed
  match ds, hl with
  | [d, d2], _ =>
    obtain ⟨v, v2, rfl, rv, rv2⟩ := repsF2 rvs
    cases d with
    | int i =>
      cases d2 with
      | int j =>
        obtain ⟨hc, rfl⟩ := if_ok er
        simp only [Bool.and_eq_true, decide_eq_true_eq] at hc
        obtain ⟨b1, b2⟩ := big62_of hc.1.1
        obtain ⟨b3, b4⟩ := big62_of hc.1.2
        refine ⟨i, j, by rw [rv.c.int, rv2.c.int], ⟨b1, b2, b3, b4⟩, q1 H1 (Ext.refl _) t1 _ _ (fun _ => False) (fun _ => True) walk_rangeI trivial (fun _ _ _ _ => trivial) (fun _ b hb => hb.elim) rangeItems ?_⟩
        rw [List.length_map, List.length_range]
        show _ ≤ 16777216
        omega
      | _ => cases er
    | _ => cases er
/-! ### enumerate, zip -/
def enumI : Nat → List V → List Item
  | _, [] => []
  | k, x :: r => .tup [.int (k : Nat), x] :: enumI (k + 1) r
theorem enumI_len : ∀ (xs : List V) (k : Nat), (enumI k xs).length = xs.length
  | [], _ => rfl
  | x :: r, k => congrArg (· + 1) (enumI_len r (k + 1))
theorem enumI_get : ∀ {xs : List V} {k i : Nat} {x : V}, xs[i]? = some x → (enumI k xs)[i]? = some (.tup [.int ((k + i : Nat) : Int), x])
  | [], _, _, _, e => by simp at e
  | y :: r, k, 0, x, e => by simp at e; subst e; rfl
  | y :: r, k, i + 1, x, e => by
    have := enumI_get (xs := r) (k := k + 1) (i := i) (x := x) (by simpa using e)
    show (enumI (k + 1) r)[i]? = _
    rw [this, show k + 1 + i = k + (i + 1) by omega]
theorem enumI_rep {K : PySem.W.Frag} {N : Addr → Prop} {H : Hp} : ∀ {xs : List V} {ds : List D} (k : Nat), Reps K N H xs ds → Paired (ItemR K N H) (enumI k xs) (enumL k ds)
  | _, _, _, .nil => .nil
  | _, _, k, .cons r t => .cons (.tup (.cons (.int _) (.cons r .nil)) (by show 2 ≤ 3; omega)) (enumI_rep (k + 1) t)
theorem walk_enumI {K : PySem.W.Frag} {k : Bool} {a : Addr} {xs : List V} : Walk (ItE K k a) (enumI 0 xs).length (fun H => SeqS K H k a xs) (YI (enumI 0 xs)) := by
  rw [enumI_len]
  refine ⟨fun i H hi q => ⟨xs, xs[i], q, by simp [hi]⟩, fun H q => ⟨xs, q, rfl⟩, fun i H v H' hi q y => ?_⟩
  obtain ⟨T, x, h1, h2, h3, h4⟩ := y
  have := enumI_get (k := 0) (h4 xs q)
  rw [Nat.zero_add] at this
  exact ⟨_, this, T, h1, h2, h3⟩
theorem i_enum (g : Good X G) {p tpos : Pos} {elts : List Expr} {kk : Nat} (hm : X.mg "enumerate" = none) (hg : Gl X "enumerate") (hr : SndA X G W [e] A fr) (hs : starEach [e] X.env = (false, eval e X.env) :: starEach [] X.env) (hpl : (backTo pos (starEach [] X.env)).any (·.1) = false) :
    SndI X G W (.Tuple elts kk tpos) (.Call (.Name "enumerate" p) [e] [] pos) A fun δ => (fr δ).bind fun ds => iterate .enumerate ds := by
  intro fl
  refine pi_imp (pi_enumS hg hm (hr.pa fl) hs hpl) fun σ H R q => ?_
  obtain ⟨N, δ, at_, q⟩ := q
  refine ⟨N, δ, at_, Fin.bindE q fun ds H1 ed x1 t1 q1 vs rvs => ?_⟩
  obtain ⟨rs, er, q1⟩ := q1.quiet (quiet_iterate _ _)
  have hl := hr.len δ ds ed
  match ds, hl with
  | [d], _ =>
    obtain ⟨v, rfl, rv⟩ := repsF1 rvs
    unfold iterate at er
    dsimp only at er
    cases es : seq? d with
    | none => rw [es] at er; cases er
    | some xs0 =>
      rw [es] at er
      cases er
      obtain ⟨k, a, xs, rfl, hl, hr, keep, Gd, h1, h2, h3, h4⟩ := src_of rv es
      rw [← g.k] at h2
      exact ⟨k, a, xs, rfl, h2 _ h1, q1 H1 (Ext.refl _) t1 _ _ keep Gd (walk_enumI.mono h2 fun _ _ _ _ _ _ y => y) h1 h3 h4 (enumI_rep 0 hr) (by rw [enumI_len]; exact hl)⟩
def zipI : List V → List V → List Item
  | x :: r, y :: s => .tup [x, y] :: zipI r s
  | _, _ => []
theorem zipI_len : ∀ (xs ys : List V), (zipI xs ys).length = min xs.length ys.length
  | [], ys => by simp [zipI]
  | x :: r, [] => by simp [zipI]
  | x :: r, y :: s => by
    show (zipI r s).length + 1 = min (r.length + 1) (s.length + 1)
    rw [zipI_len r s]
    omega
theorem zipI_get : ∀ {xs ys : List V} {i : Nat} {x y : V}, xs[i]? = some x → ys[i]? = some y → (zipI xs ys)[i]? = some (.tup [x, y])
  | [], _, _, _, _, e, _ => by simp at e
  | _ :: _, [], _, _, _, _, e => by simp at e
  | a :: r, b :: s, 0, x, y, e, e' => by simp at e e'; subst e e'; rfl
  | a :: r, b :: s, i + 1, x, y, e, e' => zipI_get (xs := r) (ys := s) (i := i) (by simpa using e) (by simpa using e')
theorem zipI_rep {K : PySem.W.Frag} {N : Addr → Prop} {H : Hp} : ∀ {xs ys : List V} {ds es : List D}, Reps K N H xs ds → Reps K N H ys es → Paired (ItemR K N H) (zipI xs ys) (zipL ds es)
  | _, _, _, _, .nil, s => .nil
  | _, _, _, _, .cons _ _, .nil => .nil
  | _, _, _, _, .cons r t, .cons r' t' => .cons (.tup (.cons r (.cons r' .nil)) (by show 2 ≤ 3; omega)) (zipI_rep t t')
theorem walk_zipI {K : PySem.W.Frag} {k1 k2 : Bool} {a b : Addr} {xs ys : List V} : Walk (ItZ2 K k1 a k2 b) (zipI xs ys).length (fun H => SeqS K H k1 a xs ∧ SeqS K H k2 b ys) (YI (zipI xs ys)) := by
  rw [zipI_len]
  refine ⟨fun i H hi q => ⟨xs, ys, xs[i], ys[i], q.1, q.2, by simp, by simp⟩, fun H q => ⟨xs, ys, q.1, q.2, rfl⟩, fun i H v H' hi q y => ?_⟩
  obtain ⟨T, x, z, h1, h2, h3, h4, h5⟩ := y
  exact ⟨_, zipI_get (h4 xs q.1) (h5 ys q.2), T, h1, h2, h3⟩
theorem i_zip2 (g : Good X G) {p tpos : Pos} {elts : List Expr} {kk : Nat} (hm : X.mg "zip" = none) (hg : Gl X "zip") (hr : SndA X G W [e, e2] A fr) (hs : starEach [e, e2] X.env = (false, eval e X.env) :: starEach [e2] X.env) (hpl : (backTo pos (starEach [e2] X.env)).any (·.1) = false) :
    SndI X G W (.Tuple elts kk tpos) (.Call (.Name "zip" p) [e, e2] [] pos) A fun δ => (fr δ).bind fun ds => iterate .zip ds := by
  intro fl
  refine pi_imp (pi_zip2 hg hm (hr.pa fl) hs hpl) fun σ H R q => ?_
  obtain ⟨N, δ, at_, q⟩ := q
  refine ⟨N, δ, at_, Fin.bindE q fun ds H1 ed x1 t1 q1 vs rvs => ?_⟩
  obtain ⟨rs, er, q1⟩ := q1.quiet (quiet_iterate _ _)
  have hl := hr.len δ ds ed
  match ds, hl with
  | [d, d2], _ =>
    obtain ⟨v, v2, rfl, rv, rv2⟩ := repsF2 rvs
    unfold iterate at er
    dsimp only at er
    cases es : seq? d with
    | none => rw [es] at er; cases er
    | some xs0 =>
      cases es2 : seq? d2 with
      | none => rw [es, es2] at er; cases er
      | some ys0 =>
        rw [es, es2] at er
        cases er
        obtain ⟨k, a, xs, rfl, hl, hr, keep, Gd, h1, h2, h3, h4⟩ := src_of rv es
        obtain ⟨k', a', xs', rfl, hl', hr', keep', Gd', h1', h2', h3', h4'⟩ := src_of rv2 es2
        rw [← g.k] at h2 h2'
        refine ⟨k, a, xs, k', a', xs', rfl, h2 _ h1, h2' _ h1', q1 H1 (Ext.refl _) t1 _ _ (fun b => keep b ∨ keep' b) (fun H => Gd H ∧ Gd' H) (walk_zipI.mono (fun H h => ⟨h2 H h.1, h2' H h.2⟩) fun _ _ _ _ _ _ y => y) ⟨h1, h1'⟩ (fun H H' k h => ⟨h3 H H' (fun b hb => k b (.inl hb)) h.1, h3' H H' (fun b hb => k b (.inr hb)) h.2⟩) (fun z b hb => hb.elim (h4 z b) (h4' z b)) (zipI_rep hr hr') ?_⟩
        rw [zipI_len]
        omega
/-! ### reversed -/
theorem walk_revI {K : PySem.W.Frag} {a : Addr} {xs : List V} : ∀ {k : Bool}, Walk (match k with | true => Itv K a xs.length | false => RT.ItvT K a xs.length) xs.reverse.length (fun H => SeqS K H k a xs) (YAt xs.reverse)
  | true => by
    rw [List.length_reverse]
    refine ⟨fun i _ hi q => ⟨hi, xs, xs[xs.length - 1 - i]'(by omega), q, by simp [show xs.length - 1 - i < xs.length by omega]⟩, fun _ _ => Nat.le_refl _, fun i _ _ _ hi q y => ⟨y.1, ?_⟩⟩
    rw [List.getElem?_reverse hi]; exact y.2 xs q
  | false => by
    rw [List.length_reverse]
    refine ⟨fun i _ hi q => ⟨hi, xs, xs[xs.length - 1 - i]'(by omega), q, by simp [show xs.length - 1 - i < xs.length by omega]⟩, fun _ _ => Nat.le_refl _, fun i _ _ _ hi q y => ⟨y.1, ?_⟩⟩
    rw [List.getElem?_reverse hi]; exact y.2 xs q
theorem i_rev (g : Good X G) {p : Pos} (hm : X.mg "reversed" = none) (hg : Gl X "reversed") (h : Snd X G W e A f) (hs : starEach [e] X.env = (false, eval e X.env) :: starEach [] X.env) :
    SndI X G W tg (.Call (.Name "reversed" p) [e] [] pos) A fun δ => (f δ).bind fun x => iterate .reversed [x] := by
  intro fl
  refine pi_imp (RT.pi_revA hg hm (h.pe fl) hs) fun σ H R q => ?_
  obtain ⟨N, δ, at_, q⟩ := q
  refine ⟨N, δ, at_, q.bind fun d H1 x1 t1 q1 v rv => ?_⟩
  obtain ⟨rs, er, q1⟩ := q1.quiet (quiet_iterate _ _)
  unfold iterate at er
  dsimp only at er
  cases es : seq? d with
  | none => rw [es] at er; cases er
  | some xs0 =>
    rw [es] at er
    cases er
    obtain ⟨k, a, xs, rfl, hl, hr, keep, Gd, h1, h2, h3, h4⟩ := src_of rv es
    rw [← g.k] at h2
    have w := q1 H1 (Ext.refl _) t1 _ _ keep Gd (walk_ones ((walk_revI (k := k)).mono h2 fun _ _ _ _ _ _ y => y)) h1 h3 h4 (ones hr.rev) (by rw [List.length_map, List.length_reverse]; exact hl)
    cases k with
    | true => exact ⟨a, xs, rfl, .inl ⟨h2 _ h1, w⟩⟩
    | false => exact ⟨a, xs, rfl, .inr ⟨h2 _ h1, w⟩⟩
end
end EV

set_option Elab.async false
set_option linter.all false
set_option maxRecDepth 100000
set_option maxHeartbeats 1000000
/-! EvK: targets; list comprehensions. -/
namespace EV
open PySem PySem.Spec PyProof.Rows L2

def setV : List Nat → List V → L2.St → L2.St
  | i :: is, v :: vs, σ => setV is vs (σ.set i (some v))
  | _, _, σ => σ
def gNames : List Nat → TGs
  | [] => gNil
  | i :: is => gCons (gName i) (gNames is)
def gT (K : PySem.W.Frag) : Tg → TG
  | .one i => gName i
  | .tup is => gTup K is.length (gNames is)
theorem gNames_of : ∀ (is : List Nat) (vs : List V) (σ : L2.St) (H : Hp) (Q : L2.St → Hp → Prop), vs.length = is.length → Q (setV is vs σ) H → gNames is vs σ H Q
  | [], vs, σ, H, Q, e, q => ⟨List.eq_nil_of_length_eq_zero e, by cases List.eq_nil_of_length_eq_zero e; exact q⟩
  | i :: is, [], σ, H, Q, e, q => by cases e
  | i :: is, v :: vs, σ, H, Q, e, q => ⟨v, vs, rfl, gNames_of is vs _ H Q (by simpa using e) q⟩

/-- the environment, but for the slots S -/
def EnvX (K : PySem.W.Frag) (N : Addr → Prop) (B : Nat → Prop) (H : Hp) (σ : L2.St) (δ : Env) (S : Nat → Prop) : Prop :=
  ∀ (i : Nat) (d : D), ¬ S i → δ[i]? = some (some d) → ∃ v, σ[i]? = some (some v) ∧ Repc K N H v d ∧ (B i → Rep K N H v d)
section
variable {K : PySem.W.Frag} {N : Addr → Prop} {B : Nat → Prop} {H : Hp} {σ : L2.St} {δ δ' : Env} {S : Nat → Prop}
theorem EnvX.set {i : Nat} {v : V} {d : D} (h : EnvX K N B H σ δ (fun j => j = i ∨ S j)) (hl : σ.length = δ.length) (r : Rep K N H v d) : EnvX K N B H (σ.set i (some v)) (δ.set i (some d)) S := by
  intro j d' hs e
  by_cases hj : i = j
  · subst hj
    by_cases hi : i < δ.length
    · rw [List.getElem?_set_self hi] at e
      cases e
      exact ⟨v, by rw [List.getElem?_set_self (by omega)], .of r, fun _ => r⟩
    · rw [List.getElem?_eq_none (by rw [List.length_set]; omega)] at e; cases e
  · rw [List.getElem?_set_ne hj] at e
    rw [List.getElem?_set_ne hj]
    exact h j d' (fun z => z.elim (fun z => hj z.symm) hs) e
theorem EnvX.setAll : ∀ {is : List Nat} {vs : List V} {ds : List D} {σ : L2.St} {δ δ' : Env}, EV.setAll is ds δ = some δ' → Reps K N H vs ds → EnvX K N B H σ δ (fun j => j ∈ is ∨ S j) → σ.length = δ.length → EnvX K N B H (setV is vs σ) δ' S ∧ (setV is vs σ).length = δ'.length ∧ vs.length = is.length
  | [], _, _, _, _, _, e, .nil, h, hl => by
    cases e
    exact ⟨fun i d hs => h i d fun z => z.elim (fun z => by cases z) hs, hl, rfl⟩
  | [], _, _, _, _, _, e, .cons _ _, h, hl => by cases e
  | _ :: _, _, _, _, _, _, e, .nil, h, hl => by cases e
  | i :: is, v :: vs, d :: ds, σ, δ, δ', e, .cons r t, h, hl => by
    have h' : EnvX K N B H (σ.set i (some v)) (δ.set i (some d)) (fun j => j ∈ is ∨ S j) := by
      refine EnvX.set (fun j d' hs => h j d' fun z => hs ?_) hl r
      rcases z with z | z
      · rcases List.mem_cons.mp z with z | z
        · exact .inl z
        · exact .inr (.inl z)
      · exact .inr (.inr z)
    obtain ⟨a, b, c⟩ := EnvX.setAll (is := is) (vs := vs) (ds := ds) (show EV.setAll is ds (δ.set i (some d)) = some δ' from e) t h' (by rw [List.length_set, List.length_set]; exact hl)
    exact ⟨a, b, congrArg (· + 1) c⟩
end
theorem wipe_get (σ : L2.St) : ∀ (vs : List Nat) (j : Nat), (wipe σ vs)[j]? = if j ∈ vs then (if j < σ.length then some none else none) else σ[j]?
  | [], j => by simp [wipe]
  | v :: vs, j => by
    unfold wipe
    have ih := wipe_get σ vs j
    have hl := wipe_length σ vs
    by_cases hv : v = j
    · subst hv
      rw [if_pos List.mem_cons_self]
      by_cases hi : v < σ.length
      · rw [if_pos hi, List.getElem?_set_self (by omega)]
      · rw [if_neg hi, List.getElem?_eq_none (by rw [List.length_set]; omega)]
    · rw [List.getElem?_set_ne hv, ih]
      by_cases hm : j ∈ vs
      · rw [if_pos hm, if_pos (List.mem_cons_of_mem _ hm)]
      · rw [if_neg hm, if_neg (fun z => by rcases List.mem_cons.mp z with z | z; exact hv z.symm; exact hm z)]
theorem wipe_set {σ : L2.St} {i : Nat} {x : Option V} {vs : List Nat} (h : i ∈ vs) : wipe (σ.set i x) vs = wipe σ vs := by
  refine List.ext_getElem? fun j => ?_
  rw [wipe_get, wipe_get, List.length_set]
  by_cases hj : j ∈ vs
  · rw [if_pos hj, if_pos hj]
  · have hne : i ≠ j := fun z => hj (by rw [← z]; exact h)
    rw [if_neg hj, if_neg hj, List.getElem?_set_ne hne]
theorem wipe_wipe {σ : L2.St} {vs ws : List Nat} (h : ∀ i ∈ ws, i ∈ vs) : wipe (wipe σ ws) vs = wipe σ vs := by
  refine List.ext_getElem? fun j => ?_
  rw [wipe_get (wipe σ ws), wipe_get σ vs, wipe_length]
  by_cases hj : j ∈ vs
  · rw [if_pos hj, if_pos hj]
  · rw [if_neg hj, if_neg hj, wipe_get, if_neg (fun z => hj (h j z))]
theorem wipe_setV {vs : List Nat} : ∀ {is : List Nat} {xs : List V} {σ : L2.St}, (∀ i ∈ is, i ∈ vs) → wipe (setV is xs σ) vs = wipe σ vs
  | [], _, _, _ => by simp [setV]
  | _ :: _, [], _, _ => by simp [setV]
  | i :: is, v :: xs, σ, h => by
    show wipe (setV is xs (σ.set i (some v))) vs = _
    rw [wipe_setV fun j hj => h j (List.mem_cons_of_mem _ hj), wipe_set (h i List.mem_cons_self)]
section
variable {G : Wd} {N : Addr → Prop} {B : Nat → Prop} {H : Hp} {σ : L2.St} {δ δ' : Env} {S : Nat → Prop} {tg : Tg} {d : D} {x : V}
theorem bindTg_len : ∀ {is : List Nat} {ds : List D} {δ δ' : Env}, setAll is ds δ = some δ' → δ'.length = δ.length
  | [], [], _, _, e => by cases e; rfl
  | [], _ :: _, _, _, e => by cases e
  | _ :: _, [], _, _, e => by cases e
  | i :: is, d :: ds, δ, δ', e => by
    have := bindTg_len (is := is) (ds := ds) (δ := δ.set i (some d)) (δ' := δ') e
    rw [this, List.length_set]
/-- the target gets its value -/
theorem tg_run (e : bindTg tg d δ = .ok δ') (r : Rep G.K N H x d) (hl : σ.length = δ.length) {Q : L2.St → Hp → Prop}
    (k : ∀ σ2, (∀ (N' : Addr → Prop) (B' : Nat → Prop) (H' : Hp) (S : Nat → Prop), (∀ a u, N a → isData u = true → Rd H a u → Rd H' a u ∧ N' a) → EnvX G.K N' B' H' σ δ (fun j => j ∈ tg.slots ∨ S j) → EnvX G.K N' B' H' σ2 δ' S) →
      σ2.length = δ'.length → (∀ vs, (∀ i ∈ tg.slots, i ∈ vs) → wipe σ2 vs = wipe σ vs) → Q σ2 H) : gT G.K tg x σ H Q := by
  cases tg with
  | one i =>
    cases e
    refine k _ (fun N' B' H' S mv hx => EnvX.set (fun j d' hs => hx j d' fun z => hs ?_) hl (r.to mv)) (by rw [List.length_set, List.length_set]; exact hl) fun vs hv => wipe_set (hv i (by simp [Tg.slots]))
    rcases z with z | z
    · exact .inl (by simpa [Tg.slots] using z)
    · exact .inr z
  | tup is =>
    unfold bindTg at e
    cases d with
    | tuple ds =>
      dsimp only at e
      cases es : setAll is ds δ with
      | none => rw [es] at e; cases e
      | some δ2 =>
        rw [es] at e
        cases e
        obtain ⟨p, xs, rfl, h1, h2, h3, _⟩ := (Repc.of r).tuple
        have hlen : (setV is xs σ).length = δ'.length ∧ xs.length = is.length := by
          obtain ⟨_, b, c⟩ := EnvX.setAll (B := fun _ => True) (S := fun _ => True) es h3 (fun i d hs => absurd (.inr trivial) hs) hl
          exact ⟨b, c⟩
        exact ⟨p, xs, rfl, h1, hlen.2, gNames_of is xs σ H Q hlen.2 (k _ (fun N' B' H' S mv hx => (EnvX.setAll es (h3.to mv) hx hl).1) hlen.1 fun vs hv => wipe_setV hv)⟩
    | _ => cases e
theorem quiet_bindTg (tg : Tg) (d : D) (δ : Env) : Quiet (bindTg tg d δ) := by
  unfold bindTg
  split
  · exact quiet_ok
  · split
    · split
      · exact quiet_ok
      · exact quiet_bad
    · exact quiet_bad
end
/-! ### without exceptions -/
abbrev W0 : WX := fun _ _ _ _ => False
theorem calm_ok {α : Type} {r : R α} {a : α} (h : r.calm = .ok a) : r = .ok a := by
  cases r with
  | ok b => exact h
  | exc c => cases h
  | bad => cases h
theorem bind_ok {α β : Type} {r : R α} {f : α → R β} {b : β} (h : r.bind f = .ok b) : ∃ a, r = .ok a ∧ f a = .ok b := by
  cases r with
  | ok a => exact ⟨a, rfl, h⟩
  | exc c => cases h
  | bad => cases h
theorem quiet_bind {α β : Type} {r : R α} {f : α → R β} (h : Quiet r) (hf : ∀ a, Quiet (f a)) : Quiet (r.bind f) := by
  cases r with
  | ok a => exact hf a
  | exc c => exact absurd rfl (h c)
  | bad => exact quiet_bad
theorem quiet_calm {α : Type} (r : R α) : Quiet r.calm := by
  cases r with
  | ok a => exact quiet_ok
  | exc c => exact quiet_bad
  | bad => exact quiet_bad
theorem quiet_compL (tg : Tg) (c : Env → R Bool) (e : Env → R D) (hc : ∀ δ, Quiet (c δ)) (he : ∀ δ, Quiet (e δ)) (δ : Env) : ∀ ds, Quiet (compL tg c e δ ds)
  | [] => quiet_ok
  | d :: r => by
    unfold compL
    refine quiet_bind (quiet_bindTg _ _ _) fun δ' => quiet_bind (hc δ') fun b => quiet_ite (quiet_bind (he δ') fun y => quiet_bind (quiet_compL tg c e hc he δ r) fun ys => quiet_ok) (quiet_compL tg c e hc he δ r)
/-- the walk of a comprehension's loop, from any heap -/
theorem lc_gen {J : It} {n : Nat} {Gd : Hp → Prop} {Y : Nat → Hp → V → Hp → Prop} (w : Walk J n Gd Y) {g : TG} {tt : TT} {te : TE} {σw : L2.St} {Ws : L2.St → Prop} {H0 : Hp} {D : Addr} {Qd : Hp → Prop} (Pv : Nat → Hp → Prop) (h0 : Pv 0 H0) (hG : ∀ i H, i ≤ n → Pv i H → Gd H)
    (hs : ∀ i x H H', i < n → Pv i H → Y i H x H' → g x σw H' fun σ2 H2 => Ws σ2 ∧ tt σ2 H2 fun b H3 =>
      if b = true then te σ2 H3 fun y H4 => ∃ acc, H4 D = some (.lst acc) ∧ acc.length < sizeLine ∧ Pv (i + 1) (upd H4 D (.lst (acc ++ [y]))) else Pv (i + 1) H3) (hd : ∀ H, Pv n H → Qd H) :
    ∃ W : Nat → Nat → Hp → Prop, (∃ m, W 0 m H0) ∧ ∀ i m H, W i m H →
      (J.stop i H ∧ Qd H) ∨ (J.go i H ∧ ∃ Nx : Hp → Prop, (∀ H', Nx H' → ∃ m', m' < m ∧ W (i + 1) m' H') ∧ ∀ x H', J.yld i H x H' → g x σw H' fun σ2 H2 => Ws σ2 ∧ tt σ2 H2 fun b H3 =>
        if b = true then te σ2 H3 fun y H4 => ∃ acc, H4 D = some (.lst acc) ∧ acc.length < sizeLine ∧ Nx (upd H4 D (.lst (acc ++ [y]))) else Nx H3) := by
  refine ⟨fun i m H => m = n - i ∧ i ≤ n ∧ Pv i H, ⟨n, by simp, Nat.zero_le _, h0⟩, ?_⟩
  rintro i m H ⟨rfl, hi, p⟩
  have q := hG i H hi p
  by_cases hlt : i < n
  · refine .inr ⟨w.goes i H hlt q, Pv (i + 1), fun H' p' => ⟨n - (i + 1), by omega, rfl, hlt, p'⟩, fun x H' y => hs i x H H' hlt p (w.yields i H x H' hlt q y)⟩
  · have e : i = n := by omega
    subst e
    exact .inl ⟨w.stops H q, hd H p⟩

/-- all but the list at D stays -/
structure ExtD (D : Addr) (H1 H : Hp) : Prop where
  ext : Ext H1 H
  tabs : True
theorem Ext.updD {H1 H : Hp} {D : Addr} {o : HO} (x : Ext H1 H) (h : H1 D = none) (hd : H D ≠ none) : Ext H1 (upd H D o) := by
  refine ⟨fun b u e n => ?_, fun b e => ?_⟩
  · rw [upd_ne (ne_of_none e h)]; exact x.keep b u e n
  · by_cases hb : b = D
    · rw [hb]; exact h
    · rw [upd_ne hb] at e; exact x.dom b e
theorem TabsOk.updD {T : List Addr} {H : Hp} {D : Addr} {xs : List V} {o : HO} (t : TabsOk T H) (h : H D = some (.lst xs)) : TabsOk T (upd H D o) := fun P hP => by
  obtain ⟨ps, e, k⟩ := t P hP
  have : P ≠ D := fun z => by rw [z, h] at e; cases e
  exact ⟨ps, by rw [upd_ne this]; exact e, k⟩
/-- cells of N but D -/
abbrev but (N : Addr → Prop) (D : Addr) : Addr → Prop := fun a => N a ∧ a ≠ D
theorem rd_updD {H : Hp} {a D : Addr} {u o : HO} (r : Rd H a u) (h : a ≠ D) : Rd (upd H D o) a u := by
  rcases r with r | ⟨z, r⟩
  · exact .inl (by rw [upd_ne h]; exact r)
  · exact .inr ⟨z, by rw [upd_ne h]; exact r⟩
theorem Repc.to {K : PySem.W.Frag} {N N' : Addr → Prop} {H H' : Hp} (h : ∀ a u, N a → isData u = true → Rd H a u → Rd H' a u ∧ N' a) (hk : ∀ a u, (∀ ps, u ≠ .tbl ps) → H a = some u → H' a = some u) {v : V} {d : D} (r : Repc K N H v d) : Repc K N' H' v d := by
  cases r with
  | of r => exact .of (r.to h)
  | lst e l r => exact .lst (hk _ _ (fun _ z => by cases z) e) l (r.to h)
  | dK e l r => exact .dK (hk _ _ (fun _ z => by cases z) e) l (r.to h)
  | dT e l r => exact .dT (hk _ _ (fun _ z => by cases z) e) l (r.to h)
section
variable {G : Wd} {N : Addr → Prop} {H H1 : Hp} {σ : L2.St} {δ : Env} {A : List Nat} {Dd : Addr}
theorem toBut (x : Ext H1 H) (hD : H1 Dd = none) : ∀ a u, N a → isData u = true → Rd H1 a u → Rd H a u ∧ but N Dd a := fun a u n hu r => ⟨rd_ext x r hu, n, rd_ne r hD⟩
theorem At.toBut (a : At G A N σ H1 δ) (x : Ext H1 H) (hD : H1 Dd = none) (hd : H Dd ≠ none) (t : TabsOk G.T H) : At G A (but N Dd) σ H δ :=
  ⟨fun b e => ⟨a.new b (x.dom b e), fun z => hd (z ▸ e)⟩, t, fun i d e => by
    obtain ⟨v, h1, h2, h3⟩ := a.env i d e
    exact ⟨v, h1, h2.to (EV.toBut x hD) (fun b u n e => x.keep b u e n), fun b => (h3 b).to (EV.toBut x hD)⟩, a.len⟩
end
section
variable {X : Cx} {G : Wd} {W : WX} {tgx iter elt : Expr} {ifs : List Expr} {scope : Scope} {own : List (Str × Nat)} {pos : Pos} {tg : Tg} {Ai : Bool → List Nat} {Ac Ae : List Nat} {fi : Env → R (List D)} {fc fe : Env → R D}
def minus (A : List Nat) (S : List Nat) : List Nat := A.filter fun i => !S.contains i
theorem mem_minus {A S : List Nat} {i : Nat} (h : i ∈ A) : i ∈ S ∨ i ∈ minus A S := by
  by_cases hs : S.contains i = true
  · exact .inl (by simpa using hs)
  · exact .inr (by unfold minus; rw [List.mem_filter]; exact ⟨h, by simpa using hs⟩)
/-- the reading that gives a new list, known to nobody -/
def rdN (G : Wd) (W : WX) (A : List Nat) (f : Env → R D) : TE := fun σ H Q => ∃ N δ, At G A N σ H δ ∧ Fin G W σ (f δ) H fun d H' => ∀ p xs ds, d = .list ds → H p = none → H' p = some (.lst xs) → xs.length ≤ LN → Reps G.K (but N p) H' xs ds → Q (.ref p) H'
theorem rdN_of {fl : Bool} {A : List Nat} {f : Env → R D} {σ : L2.St} {H : Hp} {Q : VK} (h : rdE G W fl A f σ H Q) : rdN G W A f σ H Q := by
  obtain ⟨N, δ, at_, q⟩ := h
  refine ⟨N, δ, at_, q.imp fun d H1 x1 t1 q p xs ds e hp h1 hl r => ?_⟩
  subst e
  exact q (.ref p) (RepF.of (.lst (.inl ⟨.inl h1, at_.new p hp⟩) hl (r.mono fun a n => n.1)))
abbrev fComp (fi : Env → R (List D)) (tg : Tg) (fc fe : Env → R D) : Env → R D := fun δ => (fi δ).bind fun ds => (compL tg (fun δ' => ((fc δ').bind truth).calm) (fun δ' => (fe δ').calm) δ ds).bind fun ys => .ok (.list ys)
/-- [elt for tg in iter if ..] -/
theorem comp_w (g : Good X G) (hv : ∀ i, i ∈ own.map (·.2) → i ∈ tg.slots) (hv2 : ∀ i ∈ tg.slots, i ∈ own.map (·.2)) {σ : L2.St} {H : Hp} {Q : VK} (q : rdN G W (Ai false ++ minus (Ac ++ Ae) tg.slots) (fComp fi tg fc fe) σ H Q) :
    tLc (rdI G W false (Ai false) fi) (gT G.K tg) (rdT G W0 Ac fun δ => (fc δ).bind truth) (rdE G W0 true Ae fe) (own.map (·.2)) σ H Q := by
  obtain ⟨N, δ, at_, q⟩ := q
  refine ⟨N, δ, at_.l, q.bind fun ds H1 x1 t1 q1 J is keep Gd w hG hk _ hp hl D hD => ?_⟩
  obtain ⟨L, hL, q1⟩ := q1.quiet (quiet_bind (quiet_compL _ _ _ (fun _ => quiet_calm _) (fun _ => quiet_calm _) _ _) fun _ => quiet_ok)
  obtain ⟨all, hall, eL⟩ := bind_ok hL
  obtain rfl := ok_inj eL
  have at1 := at_.r.ext x1 t1
  have hpl : is.length = ds.length := paired_len hp
  have h00 : upd H1 D (.lst []) D = some (.lst []) := upd_same
  refine lc_gen (Ws := fun σ2 => wipe σ2 (own.map (·.2)) = wipe σ (own.map (·.2))) w (fun i H => Ext H1 H ∧ TabsOk G.T H ∧ ∃ acc ys zs, H D = some (.lst acc) ∧ acc.length ≤ i ∧ Reps G.K (but N D) H acc ys ∧ all = ys ++ zs ∧ compL tg (fun δ' => ((fc δ').bind truth).calm) (fun δ' => (fe δ').calm) δ (ds.drop i) = .ok zs)
    ⟨Ext.new hD, t1.new hD, [], [], all, h00, Nat.le_refl _, .nil, rfl, by simpa using hall⟩ (fun i H hi p => ?_) (fun i x H2 H3 hi p y => ?_) (fun H p => ?_)
  · obtain ⟨xe, _, acc, ys, zs, hDa, _⟩ := p
    exact hk H1 H (fun b hb u hu e => xe.keep b u e hu) hG
  · obtain ⟨xe, t2, acc, ys, zs, hDa, hla, ra, rfl, hz⟩ := p
    have hid : i < ds.length := by omega
    rw [List.drop_eq_getElem_cons hid] at hz
    unfold compL at hz
    obtain ⟨δ', hb, hz⟩ := bind_ok hz
    obtain ⟨b, hc, hz⟩ := bind_ok hz
    obtain ⟨it, hit, hy⟩ := y
    obtain ⟨it', hit', rit⟩ := pair_get hp (List.getElem?_eq_getElem hid)
    rw [hit] at hit'
    cases hit'
    have hDn : H2 D ≠ none := by rw [hDa]; exact fun z => nomatch z
    have at2 : At G (minus (Ac ++ Ae) tg.slots) (but N D) σ H2 δ := at1.toBut xe hD hDn t2
    have rit2 : ItemR G.K (but N D) H2 it ds[i] := rit.to (EV.toBut xe hD)
    obtain ⟨rx, x3, t3⟩ := rit2.yield hy at2.new t2
    have at3 := at2.ext x3 t3
    have hDa3 : H3 D = some (.lst acc) := x3.keep D _ hDa fun _ z => nomatch z
    have out3 : EnvX G.K (but N D) (fun j => j ∈ Ac ++ Ae) H3 (wipe σ (own.map (·.2))) δ (fun j => j ∈ tg.slots ∨ False) := fun j d hs e => by
      obtain ⟨v, h1, h2, h3⟩ := at3.env j d e
      have hj : j ∉ tg.slots := fun z => hs (.inl z)
      refine ⟨v, ?_, h2, fun hm => h3 ?_⟩
      · rw [wipe_get, if_neg (fun z => hj (hv j z))]; exact h1
      · rcases mem_minus hm with z | z
        · exact absurd z hj
        · exact z
    refine tg_run hb rx (by rw [wipe_length]; exact at3.len) fun σ2 tr len2 hw => ?_
    have env2 := tr _ _ H3 (fun _ => False) (fun a u n _ r => ⟨r, n⟩) out3
    refine ⟨?_, ?_⟩
    · rw [hw _ hv2, wipe_wipe fun i h => h]
    · have atb : ∀ {A' : List Nat}, (∀ j ∈ A', j ∈ Ac ++ Ae) → At G A' (but N D) σ2 H3 δ' := fun hA => ⟨at3.new, t3, fun j d e => by
        obtain ⟨v, h1, h2, h3⟩ := env2 j d (fun z => z) e
        exact ⟨v, h1, h2, fun hm => h3 (hA j hm)⟩, len2⟩
      refine ⟨but N D, δ', atb fun j hj => List.mem_append_left _ hj, ?_⟩
      have hc' := calm_ok hc
      dsimp only
      rw [hc']
      intro H4 x4 t4
      have hDa4 : H4 D = some (.lst acc) := x4.keep D _ hDa3 fun _ z => nomatch z
      cases b with
      | false =>
        simp only [Bool.false_eq_true, if_false] at hz ⊢
        exact ⟨(xe.trans x3).trans x4, t4, acc, ys, zs, hDa4, by omega, (ra.ext x3).ext x4, rfl, hz⟩
      | true =>
        simp only [if_true] at hz ⊢
        obtain ⟨y, hy', hz⟩ := bind_ok hz
        obtain ⟨zs', hz', ez⟩ := bind_ok hz
        obtain rfl := ok_inj ez
        refine ⟨but N D, δ', (atb fun j hj => List.mem_append_right _ hj).ext x4 t4, ?_⟩
        rw [calm_ok hy']
        intro H5 x5 t5 v rv
        have hDa5 : H5 D = some (.lst acc) := x5.keep D _ hDa4 fun _ z => nomatch z
        have x15 : Ext H1 H5 := ((xe.trans x3).trans x4).trans x5
        have keepR : ∀ a u, but N D a → isData u = true → Rd H5 a u → Rd (upd H5 D (.lst (acc ++ [v]))) a u ∧ but N D a := fun a u n _ r => ⟨rd_updD r n.2, n⟩
        refine ⟨acc, hDa5, by rw [sizeLine_eq]; have : is.length ≤ 16777216 := hl; omega, x15.updD hD (by rw [hDa5]; exact fun z => nomatch z), t5.updD hDa5, acc ++ [v], ys ++ [y], zs', upd_same, by rw [List.length_append]; show acc.length + 1 ≤ i + 1; omega, ?_, by rw [List.append_assoc]; rfl, hz'⟩
        exact ((((ra.ext x3).ext x4).ext x5).app (.cons rv .nil)).to keepR
  · obtain ⟨xe, t2, acc, ys, zs, hDa, hla, ra, rfl, hz⟩ := p
    rw [hpl, List.drop_length] at hz
    obtain rfl : zs = [] := (ok_inj hz)
    rw [List.append_nil] at q1
    exact q1 H xe t2 D acc ys rfl (x1.dom D hD) hDa (by omega) ra

theorem s_comp (g : Good X G) (hN : X.N.Nodup) (hi : SndI X G W tgx iter Ai fi) (ok : BlkOk X.N X.env.scope scope own) (hv : ∀ i, i ∈ own.map (·.2) → i ∈ tg.slots) (hv2 : ∀ i ∈ tg.slots, i ∈ own.map (·.2))
    (hg : ∀ (s : Shared) (H : Hp) (C : Addr) (cl : List (Str × Addr)) (fp : List Addr), PG (X.blk s H scope (compEnvC scope cl C X.env) fp) tgx (gT G.K tg))
    (ht : ∀ (s : Shared) (H : Hp) (C : Addr) (cl : List (Str × Addr)) (fp : List Addr), PTs (X.blk s H scope (compEnvC scope cl C X.env) fp) ifs (rdT G W0 Ac fun δ => (fc δ).bind truth))
    (he : ∀ (s : Shared) (H : Hp) (C : Addr) (cl : List (Str × Addr)) (fp : List Addr), PE (X.blk s H scope (compEnvC scope cl C X.env) fp) elt (rdE G W0 true Ae fe))
    (hs : ∀ x, foldedSetIterable iter X.env x = pure x) :
    Snd X G W (.ListComp elt [⟨tgx, iter, ifs, 0⟩] scope pos) (fun _ => Ai false ++ minus (Ac ++ Ae) tg.slots)
      (fComp fi tg fc fe) :=
  .plain g (fun fl => pe_imp (pe_lc g.calm hN (hi false) ok hg ht he hs) fun σ H Q q => comp_w g hv hv2 (rdN_of q)) (fun _ => rfl) fun _ _ _ z => nomatch z
end
end EV

set_option Elab.async false
set_option linter.all false
set_option maxRecDepth 100000
set_option maxHeartbeats 1000000
/-! EvK2: list comprehensions of two clauses. -/
namespace EV
open PySem PySem.Spec PyProof.Rows L2

theorem lp_gen {J : It} {n : Nat} {Gd : Hp → Prop} {Y : Nat → Hp → V → Hp → Prop} (w : Walk J n Gd Y) {B : V → Hp → (Hp → Prop) → Prop} {H0 : Hp} {Qd : Hp → Prop} (Pv : Nat → Hp → Prop) (h0 : Pv 0 H0) (hG : ∀ i H, i ≤ n → Pv i H → Gd H)
    (hs : ∀ i x H H', i < n → Pv i H → Y i H x H' → B x H' (Pv (i + 1))) (hd : ∀ H, Pv n H → Qd H) :
    ∃ W : Nat → Nat → Hp → Prop, (∃ m, W 0 m H0) ∧ ∀ i m H, W i m H →
      (J.stop i H ∧ Qd H) ∨ (J.go i H ∧ ∃ Nx : Hp → Prop, (∀ H', Nx H' → ∃ m', m' < m ∧ W (i + 1) m' H') ∧ ∀ x H', J.yld i H x H' → B x H' Nx) := by
  refine ⟨fun i m H => m = n - i ∧ i ≤ n ∧ Pv i H, ⟨n, by simp, Nat.zero_le _, h0⟩, ?_⟩
  rintro i m H ⟨rfl, hi, p⟩
  have q := hG i H hi p
  by_cases hlt : i < n
  · refine .inr ⟨w.goes i H hlt q, Pv (i + 1), fun H' p' => ⟨n - (i + 1), by omega, rfl, hlt, p'⟩, fun x H' y => hs i x H H' hlt p (w.yields i H x H' hlt q y)⟩
  · have e : i = n := by omega
    subst e
    exact .inl ⟨w.stops H q, hd H p⟩
theorem wipeE_get : ∀ (vs : List Nat) (δ : Env) (j : Nat) (d : D), (wipeE vs δ)[j]? = some (some d) → δ[j]? = some (some d) ∧ j ∉ vs
  | [], δ, j, d, h => ⟨h, by simp⟩
  | v :: vs, δ, j, d, h => by
    unfold wipeE at h
    by_cases hj : v = j
    · subst hj
      by_cases hl : v < (wipeE vs δ).length
      · rw [List.getElem?_set_self hl] at h; cases h
      · rw [List.getElem?_eq_none (by rw [List.length_set]; omega)] at h; cases h
    · rw [List.getElem?_set_ne hj] at h
      obtain ⟨h1, h2⟩ := wipeE_get vs δ j d h
      exact ⟨h1, fun z => by rcases List.mem_cons.mp z with z | z; exact hj z.symm; exact h2 z⟩
theorem wipeE_len : ∀ (vs : List Nat) (δ : Env), (wipeE vs δ).length = δ.length
  | [], _ => rfl
  | v :: vs, δ => by unfold wipeE; rw [List.length_set, wipeE_len vs δ]
theorem quiet_compL2 (tg : Tg) (c : Env → R Bool) (it1 : Env → R (List D)) (tg1 : Tg) (c1 : Env → R Bool) (e : Env → R D) (hc : ∀ δ, Quiet (c δ)) (hi : ∀ δ, Quiet (it1 δ)) (hc1 : ∀ δ, Quiet (c1 δ)) (he : ∀ δ, Quiet (e δ)) (δ : Env) : ∀ ds, Quiet (compL2 tg c it1 tg1 c1 e δ ds)
  | [] => quiet_ok
  | d :: r => by
    unfold compL2
    exact quiet_bind (quiet_bindTg _ _ _) fun δ' => quiet_bind (hc δ') fun b => quiet_ite (quiet_bind (hi δ') fun ds => quiet_bind (quiet_compL _ _ _ hc1 he _ _) fun ys => quiet_bind (quiet_compL2 tg c it1 tg1 c1 e hc hi hc1 he δ r) fun zs => quiet_ok) (quiet_compL2 tg c it1 tg1 c1 e hc hi hc1 he δ r)
section
variable {X : Cx} {G : Wd} {W : WX} {tgx iter tgx1 iter1 elt : Expr} {ifs ifs1 : List Expr} {scope : Scope} {own : List (Str × Nat)} {pos : Pos} {tg tg1 : Tg} {Ai : Bool → List Nat} {Ac Ae Ai1 Ac1 : List Nat} {fi fi1 : Env → R (List D)} {fc fc1 fe : Env → R D}
abbrev fComp2 (fi : Env → R (List D)) (tg : Tg) (fc : Env → R D) (fi1 : Env → R (List D)) (tg1 : Tg) (fc1 fe : Env → R D) : Env → R D := fun δ => (fi δ).bind fun ds => (compL2 tg (fun δ' => ((fc δ').bind truth).calm) (fun δ' => (fi1 δ').calm) tg1 (fun δ' => ((fc1 δ').bind truth).calm) (fun δ' => (fe δ').calm) (wipeE tg1.slots δ) ds).bind fun ys => if ys.length ≤ LN then .ok (.list ys) else .bad
theorem comp2_w (g : Good X G) (hv : ∀ i, i ∈ own.map (·.2) → i ∈ tg.slots ∨ i ∈ tg1.slots) (hv2 : ∀ i ∈ tg.slots, i ∈ own.map (·.2)) (hv3 : ∀ i ∈ tg1.slots, i ∈ own.map (·.2)) {σ : L2.St} {H : Hp} {Q : VK} (q : rdN G W (Ai false ++ minus (Ac ++ (Ai1 ++ minus (Ac1 ++ Ae) tg1.slots)) tg.slots) (fComp2 fi tg fc fi1 tg1 fc1 fe) σ H Q) :
    tLc2 (rdI G W false (Ai false) fi) (gT G.K tg) (rdT G W0 Ac fun δ => (fc δ).bind truth) (rdI G W0 true Ai1 fi1) (gT G.K tg1) (rdT G W0 Ac1 fun δ => (fc1 δ).bind truth) (rdE G W0 true Ae fe) (own.map (·.2)) tg1.slots σ H Q := by
  obtain ⟨N, δ, at_, q⟩ := q
  refine ⟨N, δ, at_.l, q.bind fun ds H1 x1 t1 q1 J is keep Gd w hG hk _ hp hl D hD => ?_⟩
  obtain ⟨L, hL, q1⟩ := q1.quiet (quiet_bind (quiet_compL2 _ _ _ _ _ _ (fun _ => quiet_calm _) (fun _ => quiet_calm _) (fun _ => quiet_calm _) (fun _ => quiet_calm _) _ _) fun _ => quiet_ite quiet_ok quiet_bad)
  obtain ⟨all, hall, eL⟩ := bind_ok hL
  obtain ⟨hall2, rfl⟩ := if_okP eL
  have at1 := at_.r.ext x1 t1
  have hpl : is.length = ds.length := paired_len hp
  have h00 : upd H1 D (.lst []) D = some (.lst []) := upd_same
  refine lp_gen (B := fun x H' Nx => gT G.K tg x (wipe σ (own.map (·.2))) H' fun σ2 H2 => wipe σ2 (own.map (·.2)) = wipe σ (own.map (·.2)) ∧ rdT G W0 Ac (fun δ => (fc δ).bind truth) σ2 H2 fun b H3 =>
      if b = true then rdI G W0 true Ai1 fi1 σ2 H3 fun J1 H4 => ∃ W1 : Nat → Nat → Hp → Prop, (∃ m, W1 0 m H4) ∧ ∀ j k H, W1 j k H →
        (J1.stop j H ∧ Nx H) ∨ (J1.go j H ∧ ∃ Nx1 : Hp → Prop, (∀ H', Nx1 H' → ∃ k', k' < k ∧ W1 (j + 1) k' H') ∧ ∀ x H', J1.yld j H x H' → gT G.K tg1 x (wipe σ2 tg1.slots) H' fun σ3 H5 => wipe σ3 tg1.slots = wipe σ2 tg1.slots ∧ rdT G W0 Ac1 (fun δ => (fc1 δ).bind truth) σ3 H5 fun b H6 =>
          if b = true then rdE G W0 true Ae fe σ3 H6 fun y H7 => ∃ acc, H7 D = some (.lst acc) ∧ acc.length < sizeLine ∧ Nx1 (upd H7 D (.lst (acc ++ [y]))) else Nx1 H6)
      else Nx H3) w (fun i H => Ext H1 H ∧ TabsOk G.T H ∧ ∃ acc ys zs, H D = some (.lst acc) ∧ Reps G.K (but N D) H acc ys ∧ all = ys ++ zs ∧ compL2 tg (fun δ' => ((fc δ').bind truth).calm) (fun δ' => (fi1 δ').calm) tg1 (fun δ' => ((fc1 δ').bind truth).calm) (fun δ' => (fe δ').calm) (wipeE tg1.slots δ) (ds.drop i) = .ok zs)
    ⟨Ext.new hD, t1.new hD, [], [], all, h00, .nil, rfl, by simpa using hall⟩ (fun i H hi p => ?_) (fun i x H2 H3 hi p y => ?_) (fun H p => ?_)
  · obtain ⟨xe, _, acc, ys, zs, hDa, _⟩ := p
    exact hk H1 H (fun b hb u hu e => xe.keep b u e hu) hG
  · obtain ⟨xe, t2, acc, ys, zs, hDa, ra, rfl, hz⟩ := p
    have hid : i < ds.length := by omega
    rw [List.drop_eq_getElem_cons hid] at hz
    unfold compL2 at hz
    obtain ⟨δ', hb, hz⟩ := bind_ok hz
    obtain ⟨b, hc, hz⟩ := bind_ok hz
    obtain ⟨it, hit, hy⟩ := y
    obtain ⟨it', hit', rit⟩ := pair_get hp (List.getElem?_eq_getElem hid)
    rw [hit] at hit'
    cases hit'
    have hDn : H2 D ≠ none := by rw [hDa]; exact fun z => nomatch z
    have at2 : At G (minus (Ac ++ (Ai1 ++ minus (Ac1 ++ Ae) tg1.slots)) tg.slots) (but N D) σ H2 δ := at1.toBut xe hD hDn t2
    have rit2 : ItemR G.K (but N D) H2 it ds[i] := rit.to (EV.toBut xe hD)
    obtain ⟨rx, x3, t3⟩ := rit2.yield hy at2.new t2
    have at3 := at2.ext x3 t3
    have hDa3 : H3 D = some (.lst acc) := x3.keep D _ hDa fun _ z => nomatch z
    have out : ∀ {H3 : Hp}, At G (minus (Ac ++ (Ai1 ++ minus (Ac1 ++ Ae) tg1.slots)) tg.slots) (but N D) σ H3 δ → EnvX G.K (but N D) (fun j => j ∈ Ac ++ (Ai1 ++ minus (Ac1 ++ Ae) tg1.slots)) H3 (wipe σ (own.map (·.2))) (wipeE tg1.slots δ) (fun j => j ∈ tg.slots ∨ False) := fun {H3} at3 j d hs e => by
      obtain ⟨e, hj1⟩ := wipeE_get _ _ _ _ e
      obtain ⟨v, h1, h2, h3⟩ := at3.env j d e
      have hj : j ∉ tg.slots := fun z => hs (.inl z)
      refine ⟨v, ?_, h2, fun hm => h3 ?_⟩
      · rw [wipe_get, if_neg (fun z => (hv j z).elim hj hj1)]; exact h1
      · rcases mem_minus hm with z | z
        · exact absurd z hj
        · exact z
    refine tg_run hb rx (by rw [wipe_length, wipeE_len]; exact at3.len) fun σ2 tr len2 hw => ?_
    have env2 := tr _ _ H3 (fun _ => False) (fun a u n _ r => ⟨r, n⟩) (out at3)
    refine ⟨?_, ?_⟩
    · rw [hw _ hv2, wipe_wipe fun i h => h]
    · have atb : ∀ {A' : List Nat}, (∀ j ∈ A', j ∈ Ac ++ (Ai1 ++ minus (Ac1 ++ Ae) tg1.slots)) → At G A' (but N D) σ2 H3 δ' := fun hA => ⟨at3.new, t3, fun j d e => by
        obtain ⟨v, h1, h2, h3⟩ := env2 j d (fun z => z) e
        exact ⟨v, h1, h2, fun hm => h3 (hA j hm)⟩, len2⟩
      refine ⟨but N D, δ', atb fun j hj => List.mem_append_left _ hj, ?_⟩
      have hc' := calm_ok hc
      dsimp only
      rw [hc']
      intro H4 x4 t4
      have hDa4 : H4 D = some (.lst acc) := x4.keep D _ hDa3 fun _ z => nomatch z
      cases b with
      | false =>
        simp only [Bool.false_eq_true, if_false] at hz ⊢
        exact ⟨(xe.trans x3).trans x4, t4, acc, ys, zs, hDa4, (ra.ext x3).ext x4, rfl, hz⟩
      | true =>
        simp only [if_true] at hz ⊢
        obtain ⟨ds1, hi1', hz⟩ := bind_ok hz
        obtain ⟨ys1, hys1, hz⟩ := bind_ok hz
        obtain ⟨zs', hz', ez⟩ := bind_ok hz
        obtain rfl := ok_inj ez
        refine ⟨but N D, δ', (atb fun j hj => List.mem_append_right _ (List.mem_append_left _ hj)).ext x4 t4, ?_⟩
        rw [calm_ok hi1']
        intro H5 x5 t5 J1 is1 keep1 Gd1 w1 hG1 hk1 hkN hp1 hl1
        have hDa5 : H5 D = some (.lst acc) := x5.keep D _ hDa4 fun _ z => nomatch z
        have x15 : Ext H1 H5 := ((xe.trans x3).trans x4).trans x5
        have hpl1 : is1.length = ds1.length := paired_len hp1
        have at5 : At G (minus (Ac1 ++ Ae) tg1.slots) (but N D) σ2 H5 δ' := ((atb fun j hj => List.mem_append_right _ (List.mem_append_right _ hj)).ext x4 t4).ext x5 t5
        refine lp_gen w1 (fun j H => (Ext H1 H ∧ (∀ b u, (∀ ps, u ≠ .tbl ps) → b ≠ D → H5 b = some u → H b = some u) ∧ ∀ b, H b = none → H5 b = none) ∧ TabsOk G.T H ∧ ∃ acc ys0 zs, H D = some (.lst acc) ∧ Reps G.K (but N D) H acc ys0 ∧ ys ++ (ys1 ++ zs') = ys0 ++ (zs ++ zs') ∧ compL tg1 (fun δ' => ((fc1 δ').bind truth).calm) (fun δ' => (fe δ').calm) δ' (ds1.drop j) = .ok zs)
          ⟨⟨x15, fun b u _ _ e => e, fun b e => e⟩, t5, acc, ys, ys1, hDa5, (((ra.ext x3).ext x4).ext x5), rfl, by simpa using hys1⟩ (fun j H hj p => ?_) (fun j x Ha Hb hj p y => ?_) (fun H p => ?_)
        · obtain ⟨⟨xa, xb, xc⟩, _, _⟩ := p
          exact hk1 H5 H (fun b hb u hu e => xb b u hu (hkN rfl b hb).2 e) hG1
        · obtain ⟨⟨xa, xb, xc⟩, ta, acc2, ys2, zs2, hDa2, ra2, eall, hz2⟩ := p
          have hjd : j < ds1.length := by omega
          rw [List.drop_eq_getElem_cons hjd] at hz2
          unfold compL at hz2
          obtain ⟨δ3, hb3, hz2⟩ := bind_ok hz2
          obtain ⟨b3, hc3, hz2⟩ := bind_ok hz2
          obtain ⟨it3, hit3, hy3⟩ := y
          obtain ⟨it3', hit3', rit3⟩ := pair_get hp1 (List.getElem?_eq_getElem hjd)
          rw [hit3] at hit3'
          cases hit3'
          have mv : ∀ a u, but N D a → isData u = true → Rd H5 a u → Rd Ha a u ∧ but N D a := fun a u n hu r => by
            rcases r with r | ⟨o, r⟩
            · exact ⟨.inl (xb a u (isData_tbl hu) n.2 r), n⟩
            · exact ⟨.inr ⟨o, xb a _ (fun _ z => nomatch z) n.2 r⟩, n⟩
          have ata : At G (minus (Ac ++ (Ai1 ++ minus (Ac1 ++ Ae) tg1.slots)) tg.slots) (but N D) σ Ha δ := at1.toBut xa hD (by rw [hDa2]; exact fun z => nomatch z) ta
          have enva := tr _ _ Ha (fun _ => False) (fun a u n hu r => mv a u n hu (rd_ext (x4.trans x5) r hu)) (out ata)
          have rit3a : ItemR G.K (but N D) Ha it3 ds1[j] := rit3.to mv
          obtain ⟨rx3, xab, tb⟩ := rit3a.yield hy3 ata.new ta
          have hDab : Hb D = some (.lst acc2) := xab.keep D _ hDa2 fun _ z => nomatch z
          have outb : EnvX G.K (but N D) (fun j => j ∈ Ac1 ++ Ae) Hb (wipe σ2 tg1.slots) δ' (fun j => j ∈ tg1.slots ∨ False) := fun i d hs e => by
            obtain ⟨v, h1, h2, h3⟩ := enva i d (fun z => z) e
            have hi : i ∉ tg1.slots := fun z => hs (.inl z)
            refine ⟨v, ?_, h2.ext xab, fun hm => (h3 ?_).ext xab⟩
            · rw [wipe_get, if_neg hi]; exact h1
            · rcases mem_minus hm with z | z
              · exact absurd z hi
              · exact List.mem_append_right _ (List.mem_append_right _ z)
          refine tg_run hb3 rx3 (by rw [wipe_length]; exact len2) fun σ3 tr3 len3 hw3 => ?_
          have env3 := tr3 _ _ Hb (fun _ => False) (fun a u n _ r => ⟨r, n⟩) outb
          have atc : ∀ {A' : List Nat}, (∀ j ∈ A', j ∈ Ac1 ++ Ae) → At G A' (but N D) σ3 Hb δ3 := fun hA => ⟨ata.new.ext xab, tb, fun i d e => by
            obtain ⟨v, h1, h2, h3⟩ := env3 i d (fun z => z) e
            exact ⟨v, h1, h2, fun hm => h3 (hA i hm)⟩, len3⟩
          refine ⟨?_, but N D, δ3, atc fun i hi => List.mem_append_left _ hi, ?_⟩
          · rw [hw3 _ (fun i hi => hi), wipe_wipe fun i h => h]
          have hc3' := calm_ok hc3
          dsimp only
          rw [hc3']
          intro Hc xc' tc
          have hDac : Hc D = some (.lst acc2) := xc'.keep D _ hDab fun _ z => nomatch z
          have stay : ∀ {H' : Hp}, Ext Ha H' → (Ext H1 H' ∧ (∀ b u, (∀ ps, u ≠ .tbl ps) → b ≠ D → H5 b = some u → H' b = some u) ∧ ∀ b, H' b = none → H5 b = none) := fun {H'} xz =>
            ⟨xa.trans xz, fun b u hu hb e => xz.keep b u (xb b u hu hb e) hu, fun b e => xc b (xz.dom b e)⟩
          cases b3 with
          | false =>
            simp only [Bool.false_eq_true, if_false] at hz2 ⊢
            exact ⟨stay (xab.trans xc'), tc, acc2, ys2, zs2, hDac, (ra2.ext xab).ext xc', eall, hz2⟩
          | true =>
            simp only [if_true] at hz2 ⊢
            obtain ⟨y, hy', hz2⟩ := bind_ok hz2
            obtain ⟨zs3, hz3, ez⟩ := bind_ok hz2
            obtain rfl := ok_inj ez
            refine ⟨but N D, δ3, (atc fun i hi => List.mem_append_right _ hi).ext xc' tc, ?_⟩
            rw [calm_ok hy']
            intro Hd xd td v rv
            have hDad : Hd D = some (.lst acc2) := xd.keep D _ hDac fun _ z => nomatch z
            have keepR : ∀ a u, but N D a → isData u = true → Rd Hd a u → Rd (upd Hd D (.lst (acc2 ++ [v]))) a u ∧ but N D a := fun a u n _ r => ⟨rd_updD r n.2, n⟩
            have hlen : acc2.length < sizeLine := by
              have e1 := congrArg List.length eall
              simp only [List.length_append, List.length_cons] at e1 hall2
              have e2 := ra2.length
              rw [sizeLine_eq]
              have : ys.length + (ys1.length + zs'.length) ≤ 16777216 := hall2
              omega
            obtain ⟨s1, s2, s3⟩ := stay ((xab.trans xc').trans xd)
            refine ⟨acc2, hDad, hlen, ⟨s1.updD hD (by rw [hDad]; exact fun z => nomatch z), fun b u hu hb e => by rw [upd_ne hb]; exact s2 b u hu hb e, fun b e => ?_⟩, td.updD hDad, acc2 ++ [v], ys2 ++ [y], zs3, upd_same, ((((ra2.ext xab).ext xc').ext xd).app (.cons rv .nil)).to keepR, by rw [eall]; simp, hz3⟩
            by_cases hbD : b = D
            · rw [hbD, upd_same] at e; cases e
            · rw [upd_ne hbD] at e; exact s3 b e
        · obtain ⟨⟨xa, xb, xc⟩, ta, acc2, ys2, zs2, hDa2, ra2, eall, hz2⟩ := p
          rw [hpl1, List.drop_length] at hz2
          obtain rfl : zs2 = [] := (ok_inj hz2)
          exact ⟨xa, ta, acc2, ys2, zs', hDa2, ra2, by rw [eall]; rfl, hz'⟩
  · obtain ⟨xe, t2, acc, ys, zs, hDa, ra, rfl, hz⟩ := p
    rw [hpl, List.drop_length] at hz
    obtain rfl : zs = [] := (ok_inj hz)
    rw [List.append_nil] at hall2 q1
    exact q1 H xe t2 D acc ys rfl (x1.dom D hD) hDa (by rw [ra.length]; exact hall2) ra
theorem s_comp2 (g : Good X G) (hN : X.N.Nodup) (hi : SndI X G W tgx iter Ai fi) (ok : BlkOk X.N X.env.scope scope own) (hv : ∀ i, i ∈ own.map (·.2) → i ∈ tg.slots ∨ i ∈ tg1.slots) (hv2 : ∀ i ∈ tg.slots, i ∈ own.map (·.2)) (hv3 : ∀ i ∈ tg1.slots, i ∈ own.map (·.2))
    (hg : ∀ (s : Shared) (H : Hp) (C : Addr) (cl : List (Str × Addr)) (fp : List Addr), PG (X.blk s H scope (compEnvC scope cl C X.env) fp) tgx (gT G.K tg))
    (ht : ∀ (s : Shared) (H : Hp) (C : Addr) (cl : List (Str × Addr)) (fp : List Addr), PTs (X.blk s H scope (compEnvC scope cl C X.env) fp) ifs (rdT G W0 Ac fun δ => (fc δ).bind truth))
    (hi1 : ∀ (s : Shared) (H : Hp) (C : Addr) (cl : List (Str × Addr)) (fp : List Addr), PI (X.blk s H scope (compEnvC scope cl C X.env) fp) tgx1 iter1 (rdI G W0 true Ai1 fi1))
    (hg1 : ∀ (s : Shared) (H : Hp) (C : Addr) (cl : List (Str × Addr)) (fp : List Addr), PG (X.blk s H scope (compEnvC scope cl C X.env) fp) tgx1 (gT G.K tg1))
    (ht1 : ∀ (s : Shared) (H : Hp) (C : Addr) (cl : List (Str × Addr)) (fp : List Addr), PTs (X.blk s H scope (compEnvC scope cl C X.env) fp) ifs1 (rdT G W0 Ac1 fun δ => (fc1 δ).bind truth))
    (he : ∀ (s : Shared) (H : Hp) (C : Addr) (cl : List (Str × Addr)) (fp : List Addr), PE (X.blk s H scope (compEnvC scope cl C X.env) fp) elt (rdE G W0 true Ae fe))
    (hs : ∀ x, foldedSetIterable iter X.env x = pure x) (hs1 : ∀ env x, foldedSetIterable iter1 env x = pure x) :
    Snd X G W (.ListComp elt [⟨tgx, iter, ifs, 0⟩, ⟨tgx1, iter1, ifs1, 0⟩] scope pos) (fun _ => Ai false ++ minus (Ac ++ (Ai1 ++ minus (Ac1 ++ Ae) tg1.slots)) tg.slots)
      (fComp2 fi tg fc fi1 tg1 fc1 fe) :=
  .plain g (fun fl => pe_imp (pe_lc2 (vs1 := tg1.slots) g.calm hN (hi false) ok hv3 hg ht hi1 hg1 ht1 he hs hs1) fun σ H Q q => comp2_w g hv hv2 hv3 (rdN_of q)) (fun _ => rfl) fun _ _ _ z => nomatch z
end
end EV

set_option Elab.async false
set_option linter.all false
set_option maxRecDepth 100000
set_option maxHeartbeats 1000000
/-! EvL: a generator expression of one clause, walked by all or any; its element may call. -/
namespace EV
open PySem PySem.Spec PyProof.Rows L2

/-- the generator's own context -/
abbrev gcx (X : Cx) (s : Shared) (H : Hp) (genv : PySem.Env) (fp : List Addr) (A' : Around) : Cx :=
  { X with s_0 := s, H_0 := H, env := genv, outer := X.stack, stack := genv :: X.stack, ex := fp, fn := fun _ => false, pn := [], xe := fun _ _ => False, A := A' }
structure GenOk (N : List Str) (sc scope : Scope) (own : List (Str × Nat)) : Prop where
  blk : BlkOk N sc scope own
  co : scope.isCoroutine = false
  nocell : ∀ y ∈ scope.names, y.2 ≠ .cell
  dot : scope.names.lookup (".0" : Str) = some NameKind.local

section
variable {X : Cx} {pins : List (Addr × Obj)} {σ : L2.St} {H H' : Hp} {s : Shared}
theorem Inv.same {s' : Shared} (I : Inv X pins σ H s) (hh : s'.heap = s.heap) (ho : s'.os = s.os) (hb : AllBare s'.gens) : Inv X pins σ H s' :=
  I.call' (ch := []) ho (by rw [hh]; exact Un.refl) (by rw [hh]; exact I.hok) hb fun b z => absurd z (by simp)
theorem gen_start {scope : Scope} {own : List (Str × Nat)} {fp : List Addr} {genv : PySem.Env} {code : Value} {A' : Around} {h5 : Heap} {g5 : Array GenState} {t5 : Nat} (I : Inv X pins σ H s) (ok : GenOk X.N X.env.scope scope own) (hN : X.N.Nodup)
    (hfp : ∀ b ∈ fp, FpOk X pins H b ∧ b < s.heap.objs.size) (hA : A'.handled = none) (hF : A'.frames = some (genv :: X.stack)) (hge : genv = genEnv scope (cloFrom X.env.cells scope.names []) s.heap.objs.size code builtinsNs X.env)
    (kp : ∀ b o, s.heap.get? b = some o → h5.get? b = some o) (hns : ∃ m, h5.Ns s.heap.objs.size m) (hg : AllBare g5) : Inv (gcx X s H genv fp A') [] (wipe σ (own.map (·.2))) H { s with heap := h5, gens := g5, toks := t5 } := by
  have hfree : ∀ y ∈ scope.names, y.2 = .free → ∃ c, X.env.cells.lookup y.1 = some c := fun y hy e => by
    rcases ok.blk.free y hy e with k | k
    · exact I.ok.has _ (.inl k)
    · exact I.ok.has _ (.inr k)
  have hL : genv.locals = s.heap.objs.size := by rw [hge]; rfl
  have hcl : genv.cells = cloFrom X.env.cells scope.names [] := by rw [hge]; rfl
  have hsc : genv.scope = scope := by rw [hge]; rfl
  have cm : ∀ {y c}, genv.cells.lookup y = some c → X.env.cells.lookup y = some c ∧ c < s.heap.objs.size := fun {y c} e => by
    rw [hcl] at e
    rcases cloFrom_mem (PySem.mem_of_lookup e) with hm | ⟨h1, rfl⟩
    · cases hm
    · obtain ⟨c, hc⟩ := hfree _ h1 rfl
      rw [hc]
      obtain ⟨w, z⟩ := I.cell _ _ hc
      exact ⟨rfl, z.lt⟩
  have look : ∀ {y}, scope.names.lookup y = some .free → ∃ c, genv.cells.lookup y = some c ∧ X.env.cells.lookup y = some c := fun {y} hl => by
    have hy : (y, NameKind.free) ∈ scope.names := PySem.mem_of_lookup hl
    obtain ⟨c', e'⟩ := mem_lookup (cloFrom_has (cells := X.env.cells) (acc := []) hy)
    rw [← hcl] at e'
    exact ⟨c', e', (cm e').1⟩
  have okB : (gcx X s H genv fp A').Ok := by
    refine ⟨I.ok.mod, by show genv.scope.kind = _; rw [hsc]; exact ok.blk.kind, by show genv.globals = _; rw [hge]; exact I.ok.glob, by rw [hge]; rfl, by show s.heap.objs.size ≤ genv.locals; rw [hL]; exact Nat.le_refl _,
      fun y z c e1 e2 => ?_, fun y hy => ?_, fun y c z e => ?_, fun _ => hA, hF, .inr ⟨rfl, ?_⟩, fun b hb => ⟨?_, fun y c e z => ?_⟩, I.bs, Nat.le_trans I.ok.bsz I.sz, fun b o e hb => ?_, fun b hb z => ?_, I.stack, I.stkFree⟩
    · exact I.ok.inj y z c (cm e1).1 (cm e2).1
    · show ∃ c, genv.cells.lookup y = some c
      have hy' : scope.names.lookup y = some .free := by
        unfold Env.kindOf at hy
        rw [show (gcx X s H genv fp A').env.scope = scope from hsc] at hy
        rcases hy with hy | hy
        · exact absurd rfl (ok.nocell _ (PySem.mem_of_lookup hy))
        · exact hy
      obtain ⟨c, h1, _⟩ := look hy'
      exact ⟨c, h1⟩
    · cases z
    · show genv.frame = some genv.locals
      rw [hge]; rfl
    · show b ≠ genv.locals
      rw [hL]; exact Nat.ne_of_lt (hfp b hb).2
    · exact (hfp b hb).1.2.2.2.2.1 y c (cm e).1 z
    · rcases (hfp b hb).1.2.2.2.1 with z | z
      · exact I.ok.noex b o e z
      · exact absurd (Nat.lt_of_lt_of_le (Heap.lt_size e) (Nat.le_trans I.ok.bsz z)) (Nat.lt_irrefl _)
    · rcases List.mem_cons.mp (I.stkSub b z) with z | z
      · exact (hfp b hb).1.2.1 z
      · exact (hfp b hb).1.2.2.1 z
  obtain ⟨m, hm⟩ := hns
  refine ⟨okB, rfl, hg, Un.kept kp, ⟨m, by show Heap.Ns _ genv.locals _; rw [hL]; exact hm, fun i y av e1 e2 e3 => ?_⟩, fun y c e => ?_, ?_, fun y c e => ?_, fun p hp => ?_, I.hok.kept kp, by rw [wipe_length]; exact I.len⟩
  · obtain ⟨e2, hne⟩ := wipe_some e2
    have hfr : scope.names.lookup y = some .free := by
      have e3 : Vis scope y := by rw [← hsc]; exact e3
      have no : ¬ scope.names.lookup y = some .local := fun hh => by
        rcases ok.blk.own _ (PySem.mem_of_lookup hh) (.inl rfl) with e' | e'
        · obtain ⟨p, hp, hpy⟩ := List.mem_map.mp e'
          have e4 := ok.blk.ix p hp
          have : p.1 = y := hpy
          rw [this] at e4
          exact hne (List.mem_map.mpr ⟨p, hp, nodup_ix hN e4 e1⟩)
        · exact e' (List.mem_of_getElem? e1)
      rcases e3 with e3 | e3 | e3
      · exact absurd e3 no
      · exact absurd rfl (ok.nocell _ (PySem.mem_of_lookup e3))
      · exact e3
    obtain ⟨m', hn, hl⟩ := I.loc
    have hvis : Vis X.env.scope y := (ok.blk.free _ (PySem.mem_of_lookup hfr) rfl).elim (fun k => .inr (.inl k)) (fun k => .inr (.inr k))
    obtain ⟨w, r, q⟩ := hl i y av e1 e2 hvis
    refine ⟨w, r, .inr ⟨.inr (by show genv.scope.names.lookup y = _; rw [hsc]; exact hfr), ?_⟩⟩
    obtain ⟨c, h1, h2⟩ := look hfr
    rcases q with ⟨k, _⟩ | ⟨_, c', e', z⟩
    · have k : X.env.scope.names.lookup y = some .local := k
      rcases ok.blk.free _ (PySem.mem_of_lookup hfr) rfl with k' | k' <;> rw [show X.env.scope.names.lookup y = _ from k'] at k <;> cases k
    · rw [h2] at e'; cases e'
      exact ⟨c, h1, z.keeps kp⟩
  · obtain ⟨w, z⟩ := I.cell y c (cm e).1
    exact ⟨w, z.keeps kp⟩
  · show H genv.locals = none
    rw [hL]; exact I.hok.fresh (Nat.le_refl _)
  · exact I.freeC y c (cm e).1
  · exact absurd (show p ∈ ([] : List (Addr × Obj)) ++ [] from hp) (by simp)
end

/-! ### the run -/
/-- the truth of what the element gives -/
def TB (y : V) (b : Bool) : Prop := y = .bl b ∨ ∃ i : Int, y = .int i ∧ b = (i != 0)
section
variable {X : Cx} {s4 : Shared} {H4 : Hp} {genv : PySem.Env} {fp : List Addr} {A2 : Around} {it a : Addr} {go : Obj} {tn : Nat → Heap → Prop} {J : It} {tgx elt iter : Expr} {scope : Scope} {pos : Pos} {vs : List Nat} {σ : L2.St} {n : Nat} {Pv : Nat → Hp → Prop} {Py : Nat → VK} {g : TG} {te : TE}
abbrev gLoop (elt tgx iter : Expr) (scope : Scope) (pos : Pos) (it : Addr) (genv : PySem.Env) : Code := .compLoop (.GeneratorExp elt [⟨tgx, iter, [], 0⟩] scope pos) 0 (.ref it) .none genv
abbrev gStart (elt tgx iter : Expr) (scope : Scope) (pos : Pos) (it : Addr) (genv : PySem.Env) : Code := .compStart (.GeneratorExp elt [⟨tgx, iter, [], 0⟩] scope pos) 0 (.ref it) .none genv
abbrev gX (X : Cx) (s4 : Shared) (H4 : Hp) (genv : PySem.Env) (fp : List Addr) (A2 : Around) (elt tgx iter : Expr) (scope : Scope) (pos : Pos) (it : Addr) : Cx := gcx X s4 H4 genv fp (A2.over (gLoop elt tgx iter scope pos it genv) [])
def GI (Y : Cx) (a : Addr) (go : Obj) (σw : L2.St) (tn : Nat → Heap → Prop) (fp : List Addr) (Pv : Nat → Hp → Prop) (i : Nat) (H : Hp) (s : Shared) : Prop := Inv Y [(a, go)] σw H s ∧ tn i s.heap ∧ (∀ b ∈ fp, H b = none) ∧ Pv i H
def gEnd (Y : Cx) (a : Addr) (go : Obj) (σw : L2.St) (Pv : Nat → Hp → Prop) (n : Nat) : Shared → Prop := fun s1 => ∃ H, Inv Y [(a, go)] σw H s1 ∧ Pv n H
def gProt (Y : Cx) (a : Addr) (go : Obj) (σw : L2.St) (tn : Nat → Heap → Prop) (fp : List Addr) (Pv : Nat → Hp → Prop) (Py : Nat → VK) (n : Nat) : Protocol := fun m s₀ v s kap =>
  ∃ i H y, (m + i = n ∧ i < n) ∧ Inv Y [(a, go)] σw H s ∧ tn (i + 1) s.heap ∧ (∀ b ∈ fp, H b = none) ∧ RelV y v ∧ Py i y H ∧ (Pv (i + 1) H → ∀ s'' : Shared, s''.heap = s.heap → s''.os = s.os → AllBare s''.gens → kap (.send .none) s'')
theorem gstat {Y : Cx} {σ' : L2.St} {H' : Hp} {s' : Shared} (hp : Y.pn = []) (ha : a ∉ Y.ex) (I' : Inv Y [(a, go)] σ' H' s') (hn : ∀ b ∈ Y.ex, H' b = none) : ∀ b ∈ Y.ex, FpOk Y [(a, go)] H' b := fun b hb =>
  ⟨hn b hb, (I'.ok.exf b hb).1, I'.ok.exfs b hb, .inl hb, fun x c e => (I'.ok.exf b hb).2 x c e, fun p hp' => by
    rw [hp] at hp'
    have e : p = (a, go) := by simpa using hp'
    rw [e]
    exact fun z => ha (by have z : a = b := z; rw [z]; exact hb)⟩
theorem seg_gen (hc : X.calm = true) (T : Turn X.prog X.w X.K tgx J fp it tn) (ha : a ∉ fp) (hco : genv.scope.isCoroutine = false)
    (pg : PG (gX X s4 H4 genv fp A2 elt tgx iter scope pos it) tgx g) (pe : PE (gX X s4 H4 genv fp A2 elt tgx iter scope pos it) elt te)
    (turn : ∀ i H, i < n → Pv i H → J.go i H ∧ ∀ x H', J.yld i H x H' → g x (wipe σ vs) H' fun σ2 H2 => wipe σ2 vs = wipe σ vs ∧ te σ2 H2 (Py i)) (stop : ∀ H, Pv n H → J.stop n H) :
    ∀ (k i : Nat) (s₀ s : Shared) (H : Hp), n - i = k → i ≤ n → GI (gX X s4 H4 genv fp A2 elt tgx iter scope pos it) a go (wipe σ vs) tn fp Pv i H s →
      Seg (model X.prog X.w) A2 (fun m s₀ r s₁ => r = .ok .next ∧ (m = 1 ∧ gEnd (gX X s4 H4 genv fp A2 elt tgx iter scope pos it) a go (wipe σ vs) Pv n s₁)) (gProt (gX X s4 H4 genv fp A2 elt tgx iter scope pos it) a go (wipe σ vs) tn fp Pv Py n) (k + 1) s₀
        (gLoop elt tgx iter scope pos it genv) ((model X.prog X.w).den (gLoop elt tgx iter scope pos it genv)) [] s := by
  intro k
  induction k with
  | zero =>
    intro i s₀ s H hk hi hG
    have hin : i = n := by omega
    subst hin
    obtain ⟨I, st, hn, p⟩ := hG
    show Seg _ A2 _ _ _ s₀ _ ((compTurn (.GeneratorExp elt [⟨tgx, iter, [], 0⟩] scope pos) 0 (.ref it) .none genv).onRaise (leaving genv)) [] s
    rw [compTurn_gen, Sem.onRaise_eq_wrap]
    refine seg_bind_wrap (wpAny_standAt ?_)
    refine seg_bind_wrap (thnF (T.done (gX X s4 H4 genv fp A2 elt tgx iter scope pos it) rfl rfl rfl hc i _ s _ H (fun _ _ => False) I (gstat rfl ha I hn) st (stop H p)) fun r s1 ⟨hr, I1⟩ => ?_)
    subst hr
    exact seg_end (.ok .next) ⟨rfl, rfl, H, I1, p⟩
  | succ k ih =>
    intro i s₀ s H hk hi hG
    have hlt : i < n := by omega
    obtain ⟨I, st, hn, p⟩ := hG
    obtain ⟨hgo, step⟩ := turn i H hlt p
    show Seg _ A2 _ _ _ s₀ _ ((compTurn (.GeneratorExp elt [⟨tgx, iter, [], 0⟩] scope pos) 0 (.ref it) .none genv).onRaise (leaving genv)) [] s
    rw [compTurn_gen, Sem.onRaise_eq_wrap]
    refine seg_bind_wrap (wpAny_standAt ?_)
    refine seg_bind_wrap (thnF (T.item (gX X s4 H4 genv fp A2 elt tgx iter scope pos it) rfl rfl rfl hc i _ s _ H (fun _ _ => False) I (gstat rfl ha I hn) st hgo) fun r s1 ⟨u, hr, h1⟩ => ?_)
    subst hr
    refine seg_bind_wrap (thnF h1 fun _ s2 ⟨x, H2, I2, r2, y2, st2, n2⟩ => ?_)
    have I2' := I2.pinned (gstat rfl ha I2 n2) (T.obj _ _ st2)
    refine seg_bind_wrap (thnF (pg.run _ s2 _ H2 x u _ I2' r2 (step x H2 y2)) fun _ s3 ⟨σ3, H3, I3, hw3, q3⟩ => ?_)
    refine seg_bind_wrap (wpAny_tests_nil ?_)
    simp only [if_true]
    have hy : ∀ v, yieldOut genv v = yieldValue v := fun v => by simp only [yieldOut, hco, Bool.false_eq_true, if_false]
    simp only [hy]
    rw [Sem.bind_eq_wrap', Sem.bind_eq_wrap', Sem.wrap_wrap, Sem.wrap_wrap]
    refine seg_wrap (thnF (pe.run _ s3 σ3 H3 _ I3 q3) fun v s5 ⟨y, H5, I5, r5, hpy⟩ => ?_)
    have pin' : ∀ b ∈ fp, ∀ o, s2.heap.get? b = some o → s5.heap.get? b = some o ∧ H5 b = none := fun b hb o e =>
      let z := I5.pin (b, o) (List.mem_append_right _ (List.mem_append_right _ (mem_pinsAt hb e)))
      ⟨z.1, z.2.1⟩
    have hl : (wipe σ vs).length = σ3.length := by rw [← hw3, wipe_length]
    have I6 : Inv (gX X s4 H4 genv fp A2 elt tgx iter scope pos it) [(a, go)] (wipe σ vs) H5 s5 := (I5.unpinned (pins := [(a, go)])).weak hl fun j v e => by
      rw [← hw3] at e
      exact (wipe_some e).1
    have st5 : tn (i + 1) s5.heap := T.keep _ _ _ st2 fun b hb o e => (pin' b hb o e).1
    have n5 : ∀ b ∈ fp, H5 b = none := fun b hb => by
      obtain ⟨o, e, _⟩ := T.obj _ _ st2 b hb
      exact (pin' b hb o e).2
    refine seg_at (seg_yield rfl rfl rfl ⟨i, H5, y, ⟨by omega, hlt⟩, I6, st5, n5, r5, hpy, fun hpv s'' hh ho hb => ?_⟩)
    exact seg_again rfl (ih (i + 1) s'' s'' H5 (by omega) hlt ⟨Inv.same I6 hh ho hb, by rw [hh]; exact st5, n5, hpv⟩)
theorem seg_genStart (hc : X.calm = true) (T : Turn X.prog X.w X.K tgx J fp it tn) (ha : a ∉ fp) (hco : genv.scope.isCoroutine = false)
    (pg : PG (gX X s4 H4 genv fp A2 elt tgx iter scope pos it) tgx g) (pe : PE (gX X s4 H4 genv fp A2 elt tgx iter scope pos it) elt te)
    (turn : ∀ i H, i < n → Pv i H → J.go i H ∧ ∀ x H', J.yld i H x H' → g x (wipe σ vs) H' fun σ2 H2 => wipe σ2 vs = wipe σ vs ∧ te σ2 H2 (Py i)) (stop : ∀ H, Pv n H → J.stop n H)
    (s₀ s : Shared) (H : Hp) (hG : GI (gX X s4 H4 genv fp A2 elt tgx iter scope pos it) a go (wipe σ vs) tn fp Pv 0 H s) :
      Seg (model X.prog X.w) A2 (fun m s₀ r s₁ => r = .ok .next ∧ (m = 1 ∧ gEnd (gX X s4 H4 genv fp A2 elt tgx iter scope pos it) a go (wipe σ vs) Pv n s₁)) (gProt (gX X s4 H4 genv fp A2 elt tgx iter scope pos it) a go (wipe σ vs) tn fp Pv Py n) (n + 1) s₀
        (gStart elt tgx iter scope pos it genv) ((model X.prog X.w).den (gStart elt tgx iter scope pos it genv)) [] s := by
  have loop := seg_gen hc T ha hco pg pe turn stop n 0 s₀ s H (Nat.sub_zero _) (Nat.zero_le _) hG
  show Seg _ A2 _ _ _ s₀ _ ((compStart (.GeneratorExp elt [⟨tgx, iter, [], 0⟩] scope pos) 0 (.ref it) .none genv).onRaise (leaving genv)) [] s
  unfold compStart
  rw [Sem.onRaise_eq_wrap]
  show Seg _ A2 _ _ _ s₀ _ ((ask >>= _).wrap _ _ _ _) [] s
  refine seg_bind_wrap (wpAny_askSetting ?_)
  split
  · exact seg_again rfl loop
  · refine seg_bind_wrap (wpAny_rule ?_)
    show Seg _ A2 _ _ _ s₀ _ ((standAt iter.pos >>= _).wrap _ _ _ _) [] s
    exact seg_bind_wrap (wpAny_standAt (seg_bind_wrap (T.self _ 0 s _ _ hG.2.1 (seg_again rfl loop))))
end
/-! ### all, any over what is given turn by turn -/
section
variable {prog : Program} {w : World} {A : Around} {R : Result → Shared → Prop} {a : Addr} {n : Nat} {St : Nat → Shared → Prop}
theorem all_loop (item : ∀ i s, i < n → St i s → wpAny (model prog w) A.in1 (pyNext (.ref a)) (fun r s1 => ∃ v, r = some v ∧ wpAny (model prog w) A.in1 (truthy v) (fun b s2 => if b = true then St (i + 1) s2 else R (.ok (.ret (.bool false))) s2) (fun e s' => R (.error e) s') s1) (fun e s' => R (.error e) s') s)
    (done : ∀ s, St n s → wpAny (model prog w) A.in1 (pyNext (.ref a)) (fun r s1 => r = none ∧ R (.ok (.ret (.bool true))) s1) (fun e s' => R (.error e) s') s) :
    ∀ (k i : Nat) (s : Shared), n - i = k → i ≤ n → St i s → codeAny (model prog w) A (.builtin "all.loop" ⟨[.ref a], []⟩) R s := by
  intro k
  induction k with
  | zero =>
    intro i s hk hi hst
    have hin : i = n := by omega
    subst hin
    refine codeAny_builtin F.entry_all_loop ?_
    rw [Around.under_plainId F.plain_all_loop _]
    show wpAny _ A.in1 (pyNext (.ref a) >>= _) _ _ s
    refine wpAny_bind (wpAny_mono (done s hst) (fun r s1 h1 => ?_) fun _ _ e => e)
    obtain ⟨rfl, h1⟩ := h1
    exact wpAny_bind (wpAny_rule (wpAny_pure h1))
  | succ k ih =>
    intro i s hk hi hst
    have hlt : i < n := by omega
    refine codeAny_builtin F.entry_all_loop ?_
    rw [Around.under_plainId F.plain_all_loop _]
    show wpAny _ A.in1 (pyNext (.ref a) >>= _) _ _ s
    refine wpAny_bind (wpAny_mono (item i s hlt hst) (fun r s1 h1 => ?_) fun _ _ e => e)
    obtain ⟨v, rfl, h1⟩ := h1
    refine wpAny_bind (wpAny_holding (wpAny_mono h1 (fun b s2 h2 => ?_) fun _ _ e => e))
    refine wpAny_bind (wpAny_letGo ?_)
    cases b with
    | true =>
      simp only [if_true] at h2 ⊢
      exact wpAny_pure ⟨plainId_quiet F.plain_all_loop _, ih (i + 1) _ (by omega) hlt h2⟩
    | false =>
      simp only [Bool.false_eq_true, if_false] at h2 ⊢
      exact wpAny_bind (wpAny_rule (wpAny_pure h2))
theorem any_loop (item : ∀ i s, i < n → St i s → wpAny (model prog w) A.in1 (pyNext (.ref a)) (fun r s1 => ∃ v, r = some v ∧ wpAny (model prog w) A.in1 (truthy v) (fun b s2 => if b = false then St (i + 1) s2 else R (.ok (.ret (.bool true))) s2) (fun e s' => R (.error e) s') s1) (fun e s' => R (.error e) s') s)
    (done : ∀ s, St n s → wpAny (model prog w) A.in1 (pyNext (.ref a)) (fun r s1 => r = none ∧ R (.ok (.ret (.bool false))) s1) (fun e s' => R (.error e) s') s) :
    ∀ (k i : Nat) (s : Shared), n - i = k → i ≤ n → St i s → codeAny (model prog w) A (.builtin "any.loop" ⟨[.ref a], []⟩) R s := by
  intro k
  induction k with
  | zero =>
    intro i s hk hi hst
    have hin : i = n := by omega
    subst hin
    refine codeAny_builtin F.entry_any_loop ?_
    rw [Around.under_plainId F.plain_any_loop _]
    show wpAny _ A.in1 (pyNext (.ref a) >>= _) _ _ s
    refine wpAny_bind (wpAny_mono (done s hst) (fun r s1 h1 => ?_) fun _ _ e => e)
    obtain ⟨rfl, h1⟩ := h1
    exact wpAny_bind (wpAny_rule (wpAny_pure h1))
  | succ k ih =>
    intro i s hk hi hst
    have hlt : i < n := by omega
    refine codeAny_builtin F.entry_any_loop ?_
    rw [Around.under_plainId F.plain_any_loop _]
    show wpAny _ A.in1 (pyNext (.ref a) >>= _) _ _ s
    refine wpAny_bind (wpAny_mono (item i s hlt hst) (fun r s1 h1 => ?_) fun _ _ e => e)
    obtain ⟨v, rfl, h1⟩ := h1
    refine wpAny_bind (wpAny_holding (wpAny_mono h1 (fun b s2 h2 => ?_) fun _ _ e => e))
    refine wpAny_bind (wpAny_letGo ?_)
    cases b with
    | false =>
      simp only [if_true, Bool.false_eq_true, if_false] at h2 ⊢
      exact wpAny_pure ⟨plainId_quiet F.plain_any_loop _, ih (i + 1) _ (by omega) hlt h2⟩
    | true =>
      simp only [if_true, Bool.true_eq_false, if_false] at h2 ⊢
      exact wpAny_bind (wpAny_rule (wpAny_pure h2))
end
end EV

set_option Elab.async false
set_option linter.all false
set_option maxRecDepth 100000
set_option maxHeartbeats 2000000
/-! EvM: all(..), any(..) of a generator expression, as a rule. -/
namespace EV
open PySem PySem.Spec PySem.Calls PyProof.Rows L2

/-- Y runs inside X, under the scope given -/
structure SubCx (X Y : Cx) (scope : Scope) (m m' : Nat) : Prop where
  prog : Y.prog = X.prog
  w : Y.w = X.w
  K : Y.K = X.K
  mg : Y.mg = X.mg
  base : Y.base = X.base
  N : Y.N = X.N
  calm : Y.calm = X.calm
  sc : Y.env.scope = scope
  fn : ∀ x, scope.names.lookup x = some .cell → Y.fn x = true ∨ ∀ y ∈ scope.names, y.2 ≠ .cell
  room : ∀ k, Room (k + m) X.A → Room (k + m') Y.A
  un : X.A.units + 200 + 16 * (m - m') < cLine → Y.A.units + 200 < cLine

theorem bare_set {gens : Array GenState} {g : Nat} {x : GenState} (h : AllBare gens) (hx : x.bare = true) : AllBare (gens.setIfInBounds g x) := fun y hy => by
  obtain ⟨i, hi, rfl⟩ := Array.mem_iff_getElem.mp hy
  have hi' : i < gens.size := by simpa using hi
  rw [Array.getElem_setIfInBounds hi']
  split
  · exact hx
  · exact h _ (Array.getElem_mem hi')
theorem bare_setGen {s : Shared} {g : Nat} {x : GenState} (h : AllBare s.gens) (hx : x.bare = true) : AllBare (s.setGen g x).gens := bare_set h hx
def gBool : Bool → String
  | true => "all"
  | false => "any"
def tGen (T : List Addr) (u : Bool) (wi : TI) (g : TG) (te : TE) (vs : List Nat) : TE := fun σ H Q => wi σ H fun J H1 => TabsOk T H1 ∧ ∀ H2, Ext H1 H2 → TabsOk T H2 → ∃ (n : Nat) (Pv : Nat → Hp → Prop), Pv 0 H2 ∧
  (∀ i H, i < n → Pv i H → J.go i H ∧ ∀ x H', J.yld i H x H' → g x (wipe σ vs) H' fun σ2 H3 => wipe σ2 vs = wipe σ vs ∧ te σ2 H3 fun y H4 => ∃ b, TB y b ∧ if b = u then Pv (i + 1) H4 else Q (.bl (!u)) H4) ∧
  ∀ H, Pv n H → J.stop n H ∧ Q (.bl u) H
theorem over_gen_frames {A : Around} {elt tgx iter : Expr} {scope : Scope} {pos : Pos} {it : Addr} {genv : PySem.Env} {st : List PySem.Env} (h : A.frames = some st) (hf : genv.frame.isSome = true) : (A.over (gLoop elt tgx iter scope pos it genv) []).frames = some (genv :: st) := by
  show pushEnvs (gLoop elt tgx iter scope pos it genv).envs (pushEnvs (envsOf ([].map Frame.where_)) A.frames) = _
  rw [h]
  rfl
section
variable {X : Cx} {T0 : List Addr} {tgx elt iter : Expr} {scope : Scope} {own : List (Str × Nat)} {gpos pos p : Pos} {wi : TI} {g : TG} {te : TE} {u : Bool}
theorem pe_gen (hc : X.calm = true) (hN : X.N.Nodup) (hr : Room 1 X.A) (hg : Gl X (gBool u : Str)) (hm : X.mg (gBool u : Str) = none) (cx : ∃ c P, GxR.TabB X.base X.mg c P ∧ X.env.code = .ref c ∧ P ∈ T0) (hi : PI X tgx iter wi)
    (ok : GenOk X.N X.env.scope scope own) (hs : ∀ v, genFold iter X.env v = pure v)
    (hb : ∀ Y : Cx, SubCx X Y scope 1 0 → PG Y tgx g ∧ PE Y elt te)
    (he : starEach [.GeneratorExp elt [⟨tgx, iter, [], 0⟩] scope gpos] X.env = (false, eval (.GeneratorExp elt [⟨tgx, iter, [], 0⟩] scope gpos) X.env) :: starEach [] X.env) :
    PE X (.Call (.Name (gBool u : Str) p) [.GeneratorExp elt [⟨tgx, iter, [], 0⟩] scope gpos] [] pos) (tGen T0 u wi g te (own.map (·.2))) := by
  refine ⟨fun pins s σ H Q I h => ?_⟩
  have hfree : ∀ y ∈ scope.names, y.2 = .free → ∃ c, X.env.cells.lookup y.1 = some c := fun y hy e => by
    rcases ok.blk.free y hy e with k | k
    · exact I.ok.has _ (.inl k)
    · exact I.ok.has _ (.inr k)
  have hbt : bootBuiltins (gBool u : Str) = some (.builtin (gBool u)) ∧ (gBool u : Str) ≠ "__name__" ∧ ((gBool u : Str) == ("__debug__" : Str)) = false := by cases u <;> decide +kernel
  refine wpAny_Call_Name_kw (ld_blt I hg hm hbt.1 ?_ hbt.2.1 hbt.2.2)
  refine PyProof.Rows.callWith_builtin1 ?_ he (by rfl)
  rw [he]
  show wpAny _ _ (spliced ((false, eval (.GeneratorExp elt [⟨tgx, iter, [], 0⟩] scope gpos) X.env) :: backTo pos (starEach [] X.env))) _ _ s
  refine Calls.spliced_cons ?_
  refine wpAny_GeneratorExp_make ok.co (closure_ok hfree) ok.nocell ok.dot ok.blk.kind (by have := hr.dp; omega) ?_ hs
  refine thn (hi.run pins s σ H _ I h) fun xv s1 h1 => thn h1 fun itv s2 h2 => ?_
  obtain ⟨it, fp, tn, J, H2, e, I2, T, st2, f2, t2, q⟩ := h2
  subst e
  refine ⟨I2.nolimit, ?_⟩
  obtain ⟨c, P, TBp, hcode, hPT⟩ := cx
  obtain ⟨ps, hP, htr⟩ := t2 P hPT
  have hPs : s2.heap.get? P = some { cls := .none, data := .fields ps } := I2.hok P _ hP
  have cd : PySem.W.CodeHd s2.heap c P := TBp.code.keeps fun b o e => I2.bk b o e
  have cont : ∀ (code : Value) (h3 : Heap) (tk : Nat) (ps' : Array Value), Heap.ExtBut P s2.heap h3 → h3.get? P = some { cls := .none, data := .fields ps' } → (∃ more, ps' = ps ++ more) → TriplesOk ps'.toList →
      wpAny (model X.prog X.w) X.A (builtinsFor X.env.globals X.env.builtins) (fun bi s₄ => ∀ h', h'.Ns s₄.heap.objs.size (fun y => if y = ".0" then some (.ref it) else none) → Heap.SameBut s₄.heap.objs.size (s₄.heap.push { cls := .type "frame", data := .dict #[] }) h' →
        wpAny (model X.prog X.w) X.A (spliced (backTo pos (starEach [] X.env))) (fun us s' => wpAny (model X.prog X.w) X.A (call (.builtin (gBool u)) (Value.ref h'.objs.size :: us)) (EP X pins σ Q) X.xe s') X.xe
          { s₄ with
            gens := s₄.gens.push (.fresh (.compStart (.GeneratorExp elt [⟨tgx, iter, [], 0⟩] scope gpos) 0 (.ref it) .none (genEnv scope (cloFrom X.env.cells scope.names []) s₄.heap.objs.size code bi X.env))),
            toks := s₄.toks + 1 + 1 + 1,
            heap := h'.push { cls := .type "generator", data := .fields #[.int s₄.gens.size 0, .str "<genexpr>" (s₄.toks + 1), .str (X.env.qual ++ "<genexpr>") (s₄.toks + 1 + 1)] } }) X.xe { s2 with heap := h3, toks := tk } := by
    intro code h3 tk ps' hx hP3 hmore htr3
    have I3 : Inv X pins σ (upd H2 P (.tbl ps')) { s2 with heap := h3, toks := tk } := by
      obtain ⟨more, rfl⟩ := hmore
      exact GxR.inv_tab (g' := s2.gens) (d' := s2.drawn) (t' := tk) I2 hP (fun b o hb e => hx b o hb e) hP3 I2.bare
    have x23 : Ext H2 (upd H2 P (.tbl ps')) := by
      refine ⟨fun b o e n => ?_, fun b e => ?_⟩
      · rw [upd_ne (fun z => by rw [z, hP] at e; cases e; exact n _ rfl)]; exact e
      · by_cases hbP : b = P
        · rw [hbP, upd_same] at e; cases e
        · rw [upd_ne hbP] at e; exact e
    have t3 : TabsOk T0 (upd H2 P (.tbl ps')) := fun P' hP' => by
      by_cases hbP : P' = P
      · rw [hbP]; exact ⟨ps', upd_same, htr3⟩
      · obtain ⟨qs, e, k⟩ := t2 P' hP'
        exact ⟨qs, by rw [upd_ne hbP]; exact e, k⟩
    obtain ⟨n, Pv, p0, turn, stop⟩ := q _ x23 t3
    obtain ⟨bm, ob, e1, e2, e3, e4, e5, e6, e7, e8⟩ := TBp.bm
    refine wpAny_builtinsFor (m := X.mg) (by rw [I3.ok.glob]; exact I3.mod.glob.keeps I3.bk) e1 e2 (I3.bk _ _ e5) e6 e7 e8 ?_
    intro h' hn' hs'
    refine Calls.spliced_nil ?_
    have hsz : h'.objs.size = h3.objs.size + 1 := by rw [hs'.1, Heap.size_push]
    have keep' : ∀ b o, h3.get? b = some o → h'.get? b = some o := fun b o e => hs'.extBut b o (Nat.ne_of_lt (Heap.lt_size e)) (Heap.get?_push_of_some _ e)
    have nP : ∀ b ∈ fp, b ≠ P := fun b hb z => by
      have := (f2 b hb).1
      rw [z, hP] at this; cases this
    have st3 : tn 0 h3 := T.keep _ _ _ st2 fun b hb o e => hx b o (nP b hb) e
    have f3 : ∀ b ∈ fp, FpOk X pins (upd H2 P (.tbl ps')) b ∧ b < h3.objs.size := fun b hb => by
      obtain ⟨o, e, _⟩ := T.obj _ _ st3 b hb
      exact ⟨⟨by rw [upd_ne (nP b hb)]; exact (f2 b hb).1, (f2 b hb).2⟩, Heap.lt_size e⟩
    generalize hge : genEnv scope (cloFrom X.env.cells scope.names []) h3.objs.size code builtinsNs X.env = genv
    generalize hgo : ({ cls := .type "generator", data := .fields #[.int s2.gens.size 0, .str "<genexpr>" (tk + 1), .str (X.env.qual ++ "<genexpr>") (tk + 1 + 1)] } : Obj) = go
    have hsc : genv.scope = scope := by rw [← hge]; rfl
    have hA2 : X.A.in1.in1.frames = some X.stack := I.ok.frames
    have hF : (X.A.in1.in1.over (gLoop elt tgx iter scope gpos it genv) []).frames = some (genv :: X.stack) := over_gen_frames hA2 (by rw [← hge]; rfl)
    have hh : X.A.handled = none := I.ok.hd hc
    have I5 := gen_start (A' := X.A.in1.in1.over (gLoop elt tgx iter scope gpos it genv) []) (h5 := h'.push go) (g5 := s2.gens.push (.fresh (gStart elt tgx iter scope gpos it genv))) (t5 := tk + 1 + 1 + 1) I3 ok hN f3 hh hF hge.symm
      (fun b o e => Heap.get?_push_of_some _ (keep' b o e)) ⟨_, hn'.push _⟩ (I2.bare.push rfl)
    have hgn : (h'.push go).get? h'.objs.size = some go := Heap.get?_push_size _ (by rw [← hgo]; rfl)
    have hIsGen : ∀ {hp : Heap}, hp.get? h'.objs.size = some go → hp.IsGen h'.objs.size s2.gens.size := fun {hp} e => ⟨go, _, _, e, by rw [← hgo], by rw [← hgo], by rw [← hgo]⟩
    have haf : h'.objs.size ∉ fp := fun z => by
      have z1 : (h'.objs.size : Nat) < h3.objs.size := (f3 _ z).2
      omega
    have I6 : Inv (gX X { s2 with heap := h3, toks := tk } (upd H2 P (.tbl ps')) genv fp X.A.in1.in1 elt tgx iter scope gpos it) [(h'.objs.size, go)] (wipe σ (own.map (·.2))) (upd H2 P (.tbl ps')) { s2 with heap := h'.push go, gens := s2.gens.push (.fresh (gStart elt tgx iter scope gpos it genv)), toks := tk + 1 + 1 + 1 } := by
      refine I5.pins_of fun p hp => ?_
      obtain rfl : p = (h'.objs.size, go) := by simpa using hp
      refine ⟨hgn, I3.hok.fresh (by show h3.objs.size ≤ h'.objs.size; omega), ?_, fun z => ?_, fun v z => ?_⟩
      · show h'.objs.size ≠ genv.locals
        rw [← hge]
        show (h'.objs.size : Nat) ≠ h3.objs.size
        omega
      · obtain ⟨_, o, ho, _⟩ := I5.ok.funs.mem z
        have z1 : (h'.objs.size : Nat) < h3.objs.size := Heap.lt_size ho
        omega
      · rw [← hgo] at z; cases z
    have hrY : ∀ k, Room (k + 1) X.A → Room (k + 0) (X.A.in1.in1.over (gLoop elt tgx iter scope gpos it genv) []) := fun k r =>
      ⟨r.hd, by have := r.dp; show X.A.depth + 1 + 3 * (k + 0) + 5 < _; omega, by have := r.un; show X.A.units + 1 + 1 + 3 + 16 * (k + 0) + 200 < _; omega⟩
    obtain ⟨pgY, peY⟩ := hb (gX X { s2 with heap := h3, toks := tk } (upd H2 P (.tbl ps')) genv fp X.A.in1.in1 elt tgx iter scope gpos it)
      ⟨rfl, rfl, rfl, rfl, rfl, rfl, rfl, hsc, fun x _ => .inr ok.nocell, hrY, fun z => by show X.A.units + 1 + 1 + 3 + 200 < _; omega⟩
    generalize hY : gX X { s2 with heap := h3, toks := tk } (upd H2 P (.tbl ps')) genv fp X.A.in1.in1 elt tgx iter scope gpos it = Y at I6 pgY peY
    have back : ∀ {H' : Hp} {s' : Shared}, Inv Y [(h'.objs.size, go)] (wipe σ (own.map (·.2))) H' s' → Inv X pins σ H' s' := fun {H' s'} J' => by
      subst hY
      exact I3.call' (ch := fp) J'.os J'.base J'.hok J'.bare fun b hb => ⟨(f3 b hb).1.2.2.2.1, (f3 b hb).1.2.1, (f3 b hb).1.2.2.2.2.1, (f3 b hb).1.2.2.2.2.2⟩
    let Py : Nat → VK := fun i y H4 => ∃ b, TB y b ∧ if b = u then Pv (i + 1) H4 else Q (.bl (!u)) H4
    let Rn : GenEnd := fun m s₀ r s₁ => r = .ok .next ∧ (m = 1 ∧ gEnd Y h'.objs.size go (wipe σ (own.map (·.2))) Pv n s₁)
    let St : Nat → Shared → Prop := fun i s' => ∃ H' gs, Inv Y [(h'.objs.size, go)] (wipe σ (own.map (·.2))) H' s' ∧ Pv i H' ∧ s'.gens[s2.gens.size]? = some gs ∧
      ∀ s'' : Shared, s''.heap = s'.heap → s''.os = s'.os → AllBare s''.gens → gs.Goes (model X.prog X.w) X.A.in1.in1 Rn (gProt Y h'.objs.size go (wipe σ (own.map (·.2))) tn fp Pv Py n) (n - i + 1) (.send .none) s''
    have st0 : St 0 { s2 with heap := h'.push go, gens := s2.gens.push (.fresh (gStart elt tgx iter scope gpos it genv)), toks := tk + 1 + 1 + 1 } := by
      refine ⟨_, .fresh (gStart elt tgx iter scope gpos it genv), I6, p0, Array.getElem?_push_size .., fun s'' hh' ho' hb' => ⟨rfl, ?_⟩⟩
      subst hY
      refine seg_genStart (n := n) hc T haf (by rw [hsc]; exact ok.co) pgY peY turn (fun H p => (stop H p).1) s'' s'' _ ⟨Inv.same I6 hh' ho' hb', ?_, fun b hb => by rw [upd_ne (nP b hb)]; exact (f2 b hb).1, p0⟩
      rw [hh']
      exact T.keep _ _ _ st3 fun b _ o e => Heap.get?_push_of_some _ (keep' b o e)
    have next : ∀ i s' (Qn : Option Value → Shared → Prop) (En : Value → Shared → Prop), i ≤ n → St i s' →
        (∀ v s1 y H', i < n → RelV y v → Py i y H' → Inv Y [(h'.objs.size, go)] (wipe σ (own.map (·.2))) H' s1 → (Pv (i + 1) H' → St (i + 1) s1) → Qn (some v) s1) →
        (∀ s1 H', i = n → Pv n H' → Inv Y [(h'.objs.size, go)] (wipe σ (own.map (·.2))) H' s1 → Qn none s1) → wpAny (model X.prog X.w) X.A.in1 (pyNext (.ref h'.objs.size)) Qn En s' := by
      intro i s' Qn En hi hst hsome hnone
      obtain ⟨H', gs, J', p', hgs, hgo'⟩ := hst
      have hgl : s2.gens.size < s'.gens.size := by
        rcases Nat.lt_or_ge s2.gens.size s'.gens.size with z | z
        · exact z
        · rw [Array.getElem?_eq_none z] at hgs; cases hgs
      have hpin := (J'.pin (h'.objs.size, go) (List.mem_append_right _ (by simp))).1
      refine GenW.wpAny_gsz (n := s2.gens.size + 1) hgl ?_
      refine wpAny_pyNext_genexpQ (A := X.A.in1) (P := fun m s₀ s₁ => m = 1 ∧ gEnd Y h'.objs.size go (wipe σ (own.map (·.2))) Pv n s₁) (n := n - i + 1) hh J'.nolimit (by have := hr.dp; show X.A.depth < _; omega) (hIsGen hpin) hgs
        (hgo' (s'.setGen s2.gens.size .running) rfl rfl (bare_setGen J'.bare rfl)) (fun v s1 gs' hgb hv => ?_) (fun s1 hp h4 hk4 => ?_)
      · intro hz
        obtain ⟨i', H5, y, ⟨e9, hin⟩, J5, st5, n5, r5, py5, k5⟩ := hv
        have hii : i' = i := by omega
        subst hii
        have J5' := Inv.same (s' := s1.setGen s2.gens.size gs') J5 rfl rfl (bare_setGen J5.bare hgb)
        refine hsome v _ y H5 hin r5 py5 J5' fun pv => ⟨H5, gs', J5', pv, ?_, fun s'' h1 h2 h3 => ?_⟩
        · show (s1.gens.setIfInBounds s2.gens.size gs')[s2.gens.size]? = some gs'
          have hz' : s2.gens.size + 1 ≤ (s1.gens.setIfInBounds s2.gens.size gs').size := hz
          rw [Array.size_setIfInBounds] at hz'
          rw [Array.getElem?_setIfInBounds_self_of_lt (by omega)]
        · have := k5 pv s'' h1 h2 h3
          have em : n - i' = (n - (i' + 1)) + 1 := by omega
          rw [em] at this
          exact this
      · intro _
        obtain ⟨hm1, H5, J5, p5⟩ := hp
        have J6 : Inv Y [(h'.objs.size, go)] (wipe σ (own.map (·.2))) H5 { s1.setGen s2.gens.size .finished with heap := h4 } :=
          (Inv.same (s' := s1.setGen s2.gens.size .finished) J5 rfl rfl (bare_setGen J5.bare rfl)).kept (t' := s1.toks) hk4
        exact hnone _ H5 (by omega) p5 J6
    cases u with
    | true =>
      refine call_function_tree F.kind_all F.plain_all F.entry_all (F.args_all1 _) ?_
      unfold Builtin.«all»
      refine wpAny_bind (m := oneArg "all" _) (wpAny_pure ?_)
      refine wpAny_bind (wpAny_pyIter_gen (hIsGen hgn) ?_)
      refine wpAny_pure ⟨plainId_quiet F.plain_all_loop _, all_loop (n := n) (St := St) (fun i s' hi hst => ?_) (fun s' hst => ?_) n 0 _ (Nat.sub_zero _) (Nat.zero_le _) st0⟩
      · refine next i s' _ _ (Nat.le_of_lt hi) hst (fun v s1 y H' _ rv py J' nx => ⟨v, rfl, ?_⟩) (fun s1 H' z => absurd z (Nat.ne_of_lt hi))
        obtain ⟨b, tb, hif⟩ := py
        have fin : (if b = true then St (i + 1) s1 else EP X pins σ Q (.bool false) s1) := by
          cases b with
          | true => exact nx hif
          | false => exact ⟨.bl false, H', back J', rfl, hif⟩
        rcases tb with rfl | ⟨j, rfl, rfl⟩
        · cases rv
          exact wpAny_truthy_bool fin
        · obtain ⟨t, rfl⟩ := rv
          exact PyProof.Rows.truthy_int fin
      · exact next n s' _ _ (Nat.le_refl _) hst (fun v s1 y H' z => absurd z (Nat.lt_irrefl _)) (fun s1 H' _ p' J' => ⟨rfl, .bl true, H', back J', rfl, (stop H' p').2⟩)
    | false =>
      refine call_function_tree F.kind_any F.plain_any F.entry_any (F.args_any1 _) ?_
      unfold Builtin.«any»
      refine wpAny_bind (m := oneArg "any" _) (wpAny_pure ?_)
      refine wpAny_bind (wpAny_pyIter_gen (hIsGen hgn) ?_)
      refine wpAny_pure ⟨plainId_quiet F.plain_any_loop _, any_loop (n := n) (St := St) (fun i s' hi hst => ?_) (fun s' hst => ?_) n 0 _ (Nat.sub_zero _) (Nat.zero_le _) st0⟩
      · refine next i s' _ _ (Nat.le_of_lt hi) hst (fun v s1 y H' _ rv py J' nx => ⟨v, rfl, ?_⟩) (fun s1 H' z => absurd z (Nat.ne_of_lt hi))
        obtain ⟨b, tb, hif⟩ := py
        have fin : (if b = false then St (i + 1) s1 else EP X pins σ Q (.bool true) s1) := by
          cases b with
          | false => exact nx hif
          | true => exact ⟨.bl true, H', back J', rfl, hif⟩
        rcases tb with rfl | ⟨j, rfl, rfl⟩
        · cases rv
          exact wpAny_truthy_bool fin
        · obtain ⟨t, rfl⟩ := rv
          exact PyProof.Rows.truthy_int fin
      · exact next n s' _ _ (Nat.le_refl _) hst (fun v s1 y H' z => absurd z (Nat.lt_irrefl _)) (fun s1 H' _ p' J' => ⟨rfl, .bl false, H', back J', rfl, (stop H' p').2⟩)
  cases hf : codeAmong gpos ps.toList with
  | none =>
    refine wpAny_genexprCodeX hcode (cd.code hPs htr) (cd.tab hPs) hf fun c' h3 tk hx hge hlt hco' _ htab' _ => ?_
    obtain ⟨o1, vs, f1, tf, fl, tg, inF, tx, tt, op, _, _, _, _, _, _, _, _, _, htr', _⟩ := hco'
    exact cont _ h3 tk _ hx htab'.2 ⟨_, rfl⟩ htr'
  | some cv =>
    refine wpAny_genexprCode_hit hcode (cd.code hPs htr) hf ?_
    exact cont cv s2.heap s2.toks ps (Heap.ExtBut.refl _ _) hPs ⟨#[], by simp⟩ htr
end
end EV

set_option Elab.async false
set_option linter.all false
set_option maxRecDepth 100000
set_option maxHeartbeats 1000000
/-! EvN: all, any over pure values. -/
namespace EV
open PySem PySem.Spec PyProof.Rows L2

theorem quiet_gL (u : Bool) (tg : Tg) (e : Env → R Bool) (he : ∀ δ, Quiet (e δ)) (δ : Env) : ∀ ds, Quiet (gL u tg e δ ds)
  | [] => quiet_ok
  | d :: r => by
    unfold gL
    exact quiet_bind (quiet_bindTg _ _ _) fun δ' => quiet_bind (he δ') fun b => quiet_ite (quiet_gL u tg e he δ r) quiet_ok
section
variable {X : Cx} {G : Wd} {W : WX} {tgx iter elt : Expr} {scope : Scope} {own : List (Str × Nat)} {pos gpos p : Pos} {tg : Tg} {Ai Ae : Bool → List Nat} {fi : Env → R (List D)} {fe : Env → R D} {u : Bool}
theorem s_gen (g : Good X G) (hN : X.N.Nodup) (hr : Room 1 X.A) (hgl : Gl X (gBool u : Str)) (hm : X.mg (gBool u : Str) = none) (cx : ∃ c P, GxR.TabB X.base X.mg c P ∧ X.env.code = .ref c ∧ P ∈ G.T)
    (hi : SndI X G W tgx iter Ai fi) (ok : GenOk X.N X.env.scope scope own) (hv : ∀ i, i ∈ own.map (·.2) → i ∈ tg.slots) (hv2 : ∀ i ∈ tg.slots, i ∈ own.map (·.2)) (hs : ∀ v, genFold iter X.env v = pure v)
    (hb : ∀ Y : Cx, SubCx X Y scope 1 0 → PG Y tgx (gT G.K tg) ∧ PE Y elt (rdE G W0 false (Ae false) fe))
    (he : starEach [.GeneratorExp elt [⟨tgx, iter, [], 0⟩] scope gpos] X.env = (false, eval (.GeneratorExp elt [⟨tgx, iter, [], 0⟩] scope gpos) X.env) :: starEach [] X.env) :
    Snd X G W (.Call (.Name (gBool u : Str) p) [.GeneratorExp elt [⟨tgx, iter, [], 0⟩] scope gpos] [] pos) (fun _ => Ai false ++ minus (Ae false) tg.slots)
      fun δ => (fi δ).bind fun ds => (gL u tg (fun δ' => ((fe δ').bind tbool).calm) δ ds).bind fun b => .ok (.bool b) := by
  refine .plain g (fun fl => ?_) (fun _ => rfl) fun _ _ _ z => nomatch z
  refine pe_imp (pe_gen (T0 := G.T) (wi := rdI G W false (Ai false) fi) (g := gT G.K tg) (te := rdE G W0 false (Ae false) fe) g.calm hN hr hgl hm cx (hi false) ok hs hb he) fun σ H Q q => ?_
  obtain ⟨N, δ, at_, q⟩ := q
  refine ⟨N, δ, at_.l, q.bind fun ds H1 x1 t1 q1 J is keep Gd w hG hk _ hp hl => ⟨t1, fun H2 x2 t2 => ?_⟩⟩
  obtain ⟨L, hL, q1⟩ := q1.quiet (quiet_bind (quiet_gL _ _ _ (fun _ => quiet_calm _) _ _) fun _ => quiet_ok)
  obtain ⟨bres, hres, eL⟩ := bind_ok hL
  obtain rfl := ok_inj eL
  have at1 := at_.r.ext x1 t1
  have hpl : is.length = ds.length := paired_len hp
  have stG : ∀ H, Ext H2 H → Gd H := fun H xe => hk H1 H (fun b hb u hu e => (x2.trans xe).keep b u e hu) hG
  refine ⟨is.length, fun i H => Ext H2 H ∧ TabsOk G.T H ∧ gL u tg (fun δ' => ((fe δ').bind tbool).calm) δ (ds.drop i) = .ok bres, ⟨Ext.refl _, t2, by simpa using hres⟩, fun i H hi p => ?_, fun H p => ?_⟩
  · obtain ⟨xe, t3, hz⟩ := p
    refine ⟨w.goes i H hi (stG H xe), fun x H3 y => ?_⟩
    have hid : i < ds.length := by omega
    rw [List.drop_eq_getElem_cons hid] at hz
    unfold gL at hz
    obtain ⟨δ', hb', hz⟩ := bind_ok hz
    obtain ⟨b, hc, hz⟩ := bind_ok hz
    obtain ⟨it, hit, hy⟩ := w.yields i H x H3 hi (stG H xe) y
    obtain ⟨it', hit', rit⟩ := pair_get hp (List.getElem?_eq_getElem hid)
    rw [hit] at hit'
    cases hit'
    have at2 := at1.ext (x2.trans xe) t3
    have rit2 : ItemR G.K N H it ds[i] := rit.to fun a u n hu r => ⟨rd_ext (x2.trans xe) r hu, n⟩
    obtain ⟨rx, x3, t4⟩ := rit2.yield hy at2.new t3
    have at3 := at2.ext x3 t4
    have out3 : EnvX G.K N (fun j => j ∈ Ae false) H3 (wipe σ (own.map (·.2))) δ (fun j => j ∈ tg.slots ∨ False) := fun j d hs e => by
      obtain ⟨v, h1, h2, h3⟩ := at3.env j d e
      have hj : j ∉ tg.slots := fun z => hs (.inl z)
      refine ⟨v, ?_, h2, fun hm => h3 ?_⟩
      · rw [wipe_get, if_neg (fun z => hj (hv j z))]; exact h1
      · rcases mem_minus hm with z | z
        · exact absurd z hj
        · exact z
    refine tg_run hb' rx (by rw [wipe_length]; exact at3.len) fun σ2 tr len2 hw => ⟨by rw [hw _ hv2, wipe_wipe fun i h => h], ?_⟩
    have env2 := tr _ _ H3 (fun _ => False) (fun a u n _ r => ⟨r, n⟩) out3
    refine ⟨N, δ', ⟨at3.new, t4, fun j d e => env2 j d (fun z => z) e, len2⟩, ?_⟩
    obtain ⟨y, hy1, hy2⟩ := bind_ok (calm_ok hc)
    dsimp only
    rw [hy1]
    intro H4 x4 t5 v rv
    have rv : Repc G.K N H4 v y := rv
    refine ⟨b, ?_, ?_⟩
    · cases y with
      | bool k => obtain rfl := ok_inj hy2; exact .inl rv.bool
      | int k => obtain rfl := ok_inj hy2; exact .inr ⟨k, rv.int, rfl⟩
      | _ => cases hy2
    · by_cases hbu : b = u
      · rw [if_pos hbu] at hz ⊢
        exact ⟨(xe.trans x3).trans x4, t5, hz⟩
      · rw [if_neg hbu] at hz ⊢
        obtain rfl := ok_inj hz
        exact q1 H4 (((x2.trans xe).trans x3).trans x4) t5 _ (RepF.of (.bl _))
  · obtain ⟨xe, t3, hz⟩ := p
    refine ⟨w.stops H (stG H xe), ?_⟩
    rw [hpl, List.drop_length] at hz
    have e : bres = u := ok_inj hz
    have z := q1 H (x2.trans xe) t3 (.bl bres) (RepF.of (.bl _))
    rw [e] at z
    exact z
end
end EV

set_option Elab.async false
set_option linter.all false
set_option maxRecDepth 100000
set_option maxHeartbeats 2000000
/-! EvO: the checker of expressions against the text, and its soundness. -/
namespace EV
open PySem PySem.Spec PyProof.Rows L2

/-! ### small facts of expressions -/
def notStar : Expr → Bool
  | .Starred _ _ => false
  | _ => true
theorem star_cons {e : Expr} {es : List Expr} {env : PySem.Env} (h : notStar e = true) : starEach (e :: es) env = (false, eval e env) :: starEach es env := by
  cases e <;> first | rfl | cases h
theorem stars_any {pos : Pos} {env : PySem.Env} : ∀ {es : List Expr}, es.all notStar = true → (backTo pos (starEach es env)).any (·.1) = false
  | [], _ => rfl
  | e :: es, h => by
    rw [List.all_cons, Bool.and_eq_true] at h
    rw [star_cons h.1]
    show (false || (backTo pos (starEach es env)).any (·.1)) = false
    rw [Bool.false_or]
    exact stars_any h.2
def baseOk : Expr → Bool
  | .Call _ [] [] _ => false
  | _ => true
theorem base_ok {e : Expr} {a : Str} {env : PySem.Env} {w : Sem Value} (h : baseOk e = true) : attributeBase e a env w = w := by
  cases e with
  | Call f as ks p =>
    cases as with
    | nil =>
      cases ks with
      | nil => cases h
      | cons k ks => cases f <;> rfl
    | cons a as => cases f <;> rfl
  | _ => rfl
def notSlice : Expr → Bool
  | .Slice _ _ _ _ => false
  | _ => true
theorem plain_ix {e : Expr} (h : notSlice e = true) : PlainIx e := fun o i => by
  cases e <;> first | rfl | cases h
def notSet : Expr → Bool
  | .Set _ _ _ => false
  | _ => true
theorem fold_ok {e : Expr} {env : PySem.Env} (h : notSet e = true) (x : Value) : foldedSetIterable e env x = pure x := by
  cases e <;> first | rfl | cases h
def notSetList : Expr → Bool
  | .Set _ _ _ => false
  | .List _ _ => false
  | _ => true
theorem gfold_ok {e : Expr} {env : PySem.Env} (h : notSetList e = true) (x : Value) : genFold e env x = pure x := by
  cases e <;> first | rfl | cases h
def boIs : Bool → BoolOp → Bool
  | true, .And => true
  | false, .Or => true
  | _, _ => false
theorem boIs_eq {k : Bool} {op : BoolOp} (h : boIs k op = true) : op = boOp k := by
  cases k <;> cases op <;> first | rfl | cases h
def vis (sc : Scope) (x : Str) : Bool := decide (sc.names.lookup x = some .local) || decide (sc.names.lookup x = some .cell) || decide (sc.names.lookup x = some .free)
theorem vis_ok {sc : Scope} {x : Str} (h : vis sc x = true) : Vis sc x := by
  unfold vis at h
  simp only [Bool.or_eq_true, decide_eq_true_eq] at h
  rcases h with (h | h) | h
  · exact .inl h
  · exact .inr (.inl h)
  · exact .inr (.inr h)
def glo (sc : Scope) (x : Str) : Bool := decide (sc.names.lookup x = some .globalImplicit)
def isNone : Const → Bool
  | .none => true
  | _ => false
/-- a constant -/
def conE : D → Expr → Bool
  | .none, .Constant .none _ _ => true
  | .bool b, .Constant (.bool b') _ _ => decide (b = b')
  | .int i, .Constant (.int i') _ _ => decide (i = i')
  | .str x, .Constant (.str x') _ _ => decide (x = x')
  | _, _ => false
/-- a target -/
def okName (c : Cn) (i : Nat) (x : Str) : Bool := decide (c.N[i]? = some x) && (decide (c.sc.names.lookup x = some .local) || (decide (c.sc.names.lookup x = some .cell) && c.fn x))
def chNames (c : Cn) : List Nat → List Expr → Bool
  | [], [] => true
  | i :: is, .Name x _ :: es => okName c i x && chNames c is es
  | _, _ => false
def chT (c : Cn) : Tg → Expr → Bool
  | .one i, .Name x _ => okName c i x
  | .tup is, .Tuple es _ _ => chNames c is es
  | _, _ => false
def ownOf (N : List Str) (S : List Nat) : List (Str × Nat) := S.map fun i => (N.getD i (Str.ofString ""), i)
theorem ownOf_snd {N : List Str} {S : List Nat} : (ownOf N S).map (·.2) = S := by
  unfold ownOf
  rw [List.map_map]
  exact List.map_id S
def chBlk (N : List Str) (sc scope : Scope) (S : List Nat) : Bool :=
  decide (scope.kind = .function) && scope.names.all (fun y => decide (scope.names.lookup y.1 = some y.2)) && (ownOf N S).all (fun p => decide (N[p.2]? = some p.1)) &&
  scope.names.all (fun y => !decide (y.2 = .free) || decide (sc.names.lookup y.1 = some .cell) || decide (sc.names.lookup y.1 = some .free)) &&
  scope.names.all (fun y => !(decide (y.2 = .local) || decide (y.2 = .cell)) || ((ownOf N S).map (·.1)).contains y.1 || !N.contains y.1)
theorem blk_ok {N : List Str} {sc scope : Scope} {S : List Nat} (h : chBlk N sc scope S = true) : BlkOk N sc scope (ownOf N S) := by
  unfold chBlk at h
  simp only [Bool.and_eq_true, List.all_eq_true, decide_eq_true_eq, Bool.or_eq_true, Bool.not_eq_true', decide_eq_false_iff_not] at h
  obtain ⟨⟨⟨⟨h1, h2⟩, h3⟩, h4⟩, h5⟩ := h
  refine ⟨h1, h2, h3, fun y hy e => ?_, fun y hy e => ?_⟩
  · rcases h4 y hy with (z | z) | z
    · exact absurd e z
    · exact .inl z
    · exact .inr z
  · rcases h5 y hy with (z | z) | z
    · rcases e with e | e
      · rw [e] at z; simp at z
      · rw [e] at z; simp at z
    · exact .inl (by simpa using z)
    · exact .inr (by simpa using z)
def blkC (c : Cn) (scope : Scope) : Cn := { c with sc := relS scope c.sc, fn := fun x => scope.names.lookup x == some .cell }
def genC (c : Cn) (scope : Scope) : Cn := { c with sc := scope, fn := fun _ => false, gens := false }
def tyIs (ty : Ty) (x : Str) : Bool := decide (x = (tyName ty : Str))
def nostars (es : List Expr) : Bool := es.all notStar
def isTup : Expr → Bool
  | .Tuple _ _ _ => true
  | _ => false

/-! ### the checker -/
inductive Md where
  | E (e : Expr)
  | A (es : List Expr)
  | I (k : Itk) (tgx e : Expr)
def isYes : Tm → Bool
  | .con (.bool true) => true
  | _ => false
def fnOk (c : Cn) (f j : Nat) (x : Str) : Bool := match c.fns[f]? with
  | some (y, n, nd) => decide (x = y) && decide (j ≤ nd)
  | none => false
def itName : Itk → Str
  | .plain => ""
  | .range => "range"
  | .enumerate => "enumerate"
  | .zip => "zip"
  | .reversed => "reversed"
def itLen (k : Itk) (n : Nat) : Bool := match k with
  | .plain => false
  | .range => decide (n = 1) || decide (n = 2)
  | .enumerate => decide (n = 1)
  | .zip => decide (n = 2)
  | .reversed => decide (n = 1)
def itTup (k : Itk) (tgx : Expr) : Bool := match k with
  | .enumerate => isTup tgx
  | .zip => isTup tgx
  | _ => true
def isNilT : Tm → Bool
  | .nil => true
  | _ => false
/-- the tail of and, or -/
def boTail (op : BoolOp) (e2 : Expr) (rest : List Expr) (pos : Pos) : Expr := match rest with
  | [] => e2
  | _ :: _ => .BoolOp op (e2 :: rest) pos
def tyArgs (ty : Ty) (sc : Scope) : List Expr → Bool
  | [.Name y _] => tyIs ty y && glo sc y
  | _ => false
theorem tyArgs_eq {ty : Ty} {sc : Scope} {es : List Expr} (h : tyArgs ty sc es = true) : ∃ p, es = [.Name (tyName ty : Str) p] ∧ glo sc (tyName ty : Str) = true := by
  unfold tyArgs at h
  split at h
  · rw [Bool.and_eq_true] at h
    obtain rfl := of_decide_eq_true h.1
    exact ⟨_, rfl, h.2⟩
  · cases h
def gen1 : List Comprehension → Option (Expr × Expr × List Expr)
  | [⟨t, i, f, a⟩] => if a = 0 then some (t, i, f) else none
  | _ => none
theorem gen1_eq {gs : List Comprehension} {t i : Expr} {f : List Expr} (h : gen1 gs = some (t, i, f)) : gs = [⟨t, i, f, 0⟩] := by
  unfold gen1 at h
  split at h
  · split at h
    · rename_i z
      cases h
      rw [z]
    · cases h
  · cases h
def gen2 : List Comprehension → Option ((Expr × Expr × List Expr) × (Expr × Expr × List Expr))
  | [⟨t, i, f, a⟩, ⟨t', i', f', a'⟩] => if a = 0 ∧ a' = 0 then some ((t, i, f), (t', i', f')) else none
  | _ => none
theorem gen2_eq {gs : List Comprehension} {t i t' i' : Expr} {f f' : List Expr} (h : gen2 gs = some ((t, i, f), (t', i', f'))) : gs = [⟨t, i, f, 0⟩, ⟨t', i', f', 0⟩] := by
  unfold gen2 at h
  split at h
  · split at h
    · rename_i z
      cases h
      rw [z.1, z.2]
    · cases h
  · cases h
def genx : List Expr → Option (Expr × Expr × Expr × Scope)
  | [.GeneratorExp elt gs scope _] => match gen1 gs with
    | some (t, i, []) => some (elt, t, i, scope)
    | _ => none
  | _ => none
theorem genx_eq {es : List Expr} {elt t i : Expr} {scope : Scope} (h : genx es = some (elt, t, i, scope)) : ∃ p, es = [.GeneratorExp elt [⟨t, i, [], 0⟩] scope p] := by
  unfold genx at h
  split at h
  · split at h
    · rename_i hg
      cases h
      rw [gen1_eq hg]
      exact ⟨_, rfl⟩
    · cases h
  · cases h
def ch : Tm → Cn → Md → Bool
  | .var i, c, m => match m with
    | .E (.Name x _) => decide (c.N[i]? = some x) && vis c.sc x && !(x == ("__debug__" : Str)) && !(x == ("__classdict__" : Str))
    | _ => false
  | .con d, c, m => match m with
    | .E e => conE d e
    | _ => false
  | .glob g, c, m => match m with
    | .E (.Name x _) => decide (c.gls[g]? = some x) && glo c.sc x && !(x == ("__debug__" : Str))
    | _ => false
  | .nil, c, m => match m with
    | .A [] => true
    | _ => false
  | .cons a b, c, m => match m with
    | .A (e :: es) => notStar e && ch a c (.E e) && ch b c (.A es)
    | .I .plain _ e => isNilT b && ch a c (.E e)
    | .I k tgx (.Call (.Name x _) (e :: es) [] _) => decide (x = itName k) && glo c.sc x && itLen k (es.length + 1) && nostars (e :: es) && itTup k tgx && ch a c (.E e) && ch b c (.A es)
    | _ => false
  | .tup a, c, m => match m with
    | .E (.Tuple es _ _) => decide (es.length ≤ 1000) && ch a c (.A es)
    | _ => false
  | .lst a, c, m => match m with
    | .E (.List es _) => decide (es.length ≤ 1000) && ch a c (.A es)
    | _ => false
  | .rep a b, c, m => match m with
    | .E (.BinOp (.List es _) .Mult e _) => decide (es.length ≤ 1000) && ch a c (.A es) && ch b c (.E e)
    | _ => false
  | .bin op a b, c, m => match m with
    | .E (.BinOp e1 op' e2 _) => decide (op = op') && ch a c (.E e1) && ch b c (.E e2)
    | _ => false
  | .un op a, c, m => match m with
    | .E (.UnaryOp op' e _) => decide (op = op') && !decide (op = .Not) && ch a c (.E e)
    | _ => false
  | .not a, c, m => match m with
    | .E (.UnaryOp op' e _) => decide (op' = .Not) && ch a c (.E e)
    | _ => false
  | .bop k a b, c, m => match m with
    | .E (.BoolOp op (e1 :: e2 :: rest) pos) => boIs k op && ch a c (.E e1) && ch b c (.E (boTail op e2 rest pos))
    | _ => false
  | .ite t a b, c, m => match m with
    | .E (.IfExp e1 e2 e3 _) => ch t c (.E e1) && ch a c (.E e2) && ch b c (.E e3)
    | _ => false
  | .cmp op a b, c, m => match m with
    | .E (.Compare e1 [op'] [e2] _) => decide (op = op') && ch a c (.E e1) && ch b c (.E e2) && !behindInMarks op e2
    | _ => false
  | .chain op op' a b z, c, m => match m with
    | .E (.Compare e1 [p, p'] [e2, e3] _) => decide (op = p) && decide (op' = p') && ch a c (.E e1) && ch b c (.E e2) && ch z c (.E e3) && !lastMarks [op, op'] [e2, e3]
    | _ => false
  | .call f as j, c, m => match m with
    | .E (.Call (.Name x _) (e :: es) [] _) => fnOk c f j x && glo c.sc x && !(x == ("__debug__" : Str)) && nostars (e :: es) && ch as c (.A (e :: es))
    | _ => false
  | .bi f as, c, m => match m with
    | .E (.Call (.Name x _) (e :: es) [] _) => !decide (f = .bitlen) && decide (x = biName f) && glo c.sc x && nostars (e :: es) && ch as c (.A (e :: es))
    | .E (.Call (.Attribute e at_ apos) [] [] pos) => decide (f = .bitlen) && decide (at_ = ("bit_length" : Str)) && baseOk e && (apos.endLine == pos.line) && notStar e && ch as c (.I .plain e e)
    | _ => false
  | .isi ty a, c, m => match m with
    | .E (.Call (.Name x _) (e :: es) [] _) => decide (x = ("isinstance" : Str)) && glo c.sc x && tyArgs ty c.sc es && notStar e && ch a c (.E e)
    | _ => false
  | .ix a i, c, m => match m with
    | .E (.Subscript e1 e2 _) => ch a c (.E e1) && ch i c (.E e2) && notSlice e2
    | _ => false
  | .comp tg k it t e, c, m => match m with
    | .E (.ListComp elt gs scope _) => match gen1 gs with
      | some (tgx, iter, ifs) => ch it c (.I k tgx iter) && chBlk c.N c.sc scope tg.slots && chT (blkC c scope) tg tgx && notSet iter &&
        (match ifs with | [] => isYes t | [x] => ch t (blkC c scope) (.E x) | _ => false) && ch e (blkC c scope) (.E elt)
      | none => false
    | _ => false
  | .comp2 tg k it t tg1 k1 it1 t1 e, c, m => match m with
    | .E (.ListComp elt gs scope _) => match gen2 gs with
      | some ((tgx, iter, ifs), (tgx1, iter1, ifs1)) => ch it c (.I k tgx iter) && chBlk c.N c.sc scope (tg.slots ++ tg1.slots) && chT (blkC c scope) tg tgx && chT (blkC c scope) tg1 tgx1 && notSet iter && notSet iter1 &&
        (match ifs with | [] => isYes t | [x] => ch t (blkC c scope) (.E x) | _ => false) && ch it1 (blkC c scope) (.I k1 tgx1 iter1) &&
        (match ifs1 with | [] => isYes t1 | [x] => ch t1 (blkC c scope) (.E x) | _ => false) && ch e (blkC c scope) (.E elt)
      | none => false
    | _ => false
  | .gen u tg k it e, c, m => match m with
    | .E (.Call (.Name x _) es [] _) => match genx es with
      | some (elt, tgx, iter, scope) => c.gens && decide (x = (gBool u : Str)) && glo c.sc x && ch it c (.I k tgx iter) && chBlk c.N c.sc scope tg.slots && chT (genC c scope) tg tgx && notSetList iter &&
        !scope.isCoroutine && scope.names.all (fun y => !decide (y.2 = .cell)) && decide (scope.names.lookup (".0" : Str) = some .local) && ch e (genC c scope) (.E elt)
      | none => false
    | _ => false
abbrev chE (c : Cn) (t : Tm) (e : Expr) : Bool := ch t c (.E e)
abbrev chA (c : Cn) (t : Tm) (es : List Expr) : Bool := ch t c (.A es)
abbrev chI (c : Cn) (k : Itk) (it : Tm) (tgx e : Expr) : Bool := ch it c (.I k tgx e)
end EV

set_option Elab.async false
set_option linter.all false
set_option maxRecDepth 100000
set_option maxHeartbeats 4000000
/-! EvP: soundness of the checker of expressions. -/
namespace EV
open PySem PySem.Spec PyProof.Rows L2

/-- the slots whose values must lie in N -/
def esc : Bool → Tm → List Nat
  | fl, .var i => if fl = true then [i] else []
  | _, .con _ => []
  | _, .glob _ => []
  | _, .nil => []
  | fl, .cons a b => esc fl a ++ esc fl b
  | _, .tup a => esc true a
  | _, .lst a => esc true a
  | _, .rep a b => esc true a ++ esc false b
  | _, .bin _ a b => esc false a ++ esc false b
  | _, .un _ a => esc false a
  | _, .not a => esc false a
  | fl, .bop _ a b => esc fl a ++ (esc false a ++ esc fl b)
  | fl, .ite c a b => esc false c ++ (esc fl a ++ esc fl b)
  | _, .cmp _ a b => esc false a ++ esc false b
  | _, .chain _ _ a b c => esc false a ++ (esc false b ++ esc false c)
  | _, .call _ as _ => esc true as
  | _, .bi _ as => esc false as
  | _, .isi _ a => esc false a
  | _, .ix a i => esc false a ++ esc false i
  | _, .comp tg k it c e => esc false it ++ minus (esc false c ++ esc true e) tg.slots
  | _, .comp2 tg k it c tg1 k1 it1 c1 e => esc false it ++ minus (esc false c ++ ((if k1 = .range then esc false it1 else esc true it1) ++ minus (esc false c1 ++ esc true e) tg1.slots)) tg.slots
  | _, .gen _ tg k it e => esc false it ++ minus (esc false e) tg.slots
def escI (fl : Bool) (k : Itk) (it : Tm) : List Nat := if k = .range then esc false it else esc fl it

section
variable {X Y : Cx} {G : Wd} {W : WX} {Z : Sem0} {c : Cn}
theorem Fit.blk (F : Fit X G W Z c) (s : Shared) (H : Hp) (scope : Scope) (C : Addr) (cl : List (Str × Addr)) (fp : List Addr) : Fit (X.blk s H scope (compEnvC scope cl C X.env) fp) G W0 Z (blkC c scope) where
  k := F.k
  calm := F.calm
  room := F.room
  N := F.N
  sc := by show relS scope X.env.scope = _; rw [F.sc]; rfl
  fn := fun x h => h
  nd := F.nd
  bl := F.bl
  gl := F.gl
  tk := LamX.takes0
  cx := F.cx
  calls := fun f x n nd h => ⟨(F.calls f x n nd h).1, (F.calls f x n nd h).2.ar, (F.calls f x n nd h).2.ex⟩
theorem Fit.gen (F : Fit X G W Z c) (hg : c.gens = true) {scope : Scope} (S : SubCx X Y scope 1 0) : Fit Y G W0 Z (genC c scope) where
  k := S.K.trans F.k
  calm := S.calm.trans F.calm
  room := by
    have := F.room
    rw [hg] at this
    exact S.room 0 this
  N := S.N.trans F.N
  sc := S.sc
  fn := fun x h => by cases h
  nd := F.nd
  bl := fun x hx => by rw [S.mg]; exact F.bl x hx
  gl := fun g x h => by rw [S.mg]; exact F.gl g x h
  tk := LamX.takes0
  cx := fun z => by cases z
  calls := fun f x n nd h => by
    obtain ⟨h0, F1⟩ := F.calls f x n nd h
    refine ⟨h0, F1.ar, ?_⟩
    obtain ⟨a, fd, ps, k, hn, hm, hk, hb, fo, rm⟩ := F1.ex
    rw [hg] at rm
    exact ⟨a, fd, ps, k, hn, by rw [S.mg]; exact hm, by rw [S.K]; exact hk, by rw [S.K]; exact hb, by rw [S.prog, S.w, S.K, S.mg, S.base]; exact fo, S.room k rm⟩
theorem okName_pg (F : Fit X G W Z c) {i : Nat} {x : Str} {pos : Pos} (h : okName c i x = true) : PG X (.Name x pos) (gName i) := by
  unfold okName at h
  simp only [Bool.and_eq_true, decide_eq_true_eq, Bool.or_eq_true] at h
  have hN : X.N[i]? = some x := by rw [F.N]; exact h.1
  refine pg_name (by rw [F.N]; exact F.nd) hN ?_ ?_
  · rw [F.sc]; exact h.2.elim .inl fun z => .inr z.1
  · rw [F.sc]; exact h.2.elim .inr fun z => .inl (F.fn x z.2)
theorem chNames_pg (F : Fit X G W Z c) : ∀ {is : List Nat} {es : List Expr}, chNames c is es = true → PGs X es (gNames is) ∧ es.length = is.length ∧ (assignEach es X.env).length = is.length ∧ (assignEach es X.env).findIdx? (·.1) = none
  | [], [], _ => ⟨pgs_nil, rfl, rfl, rfl⟩
  | [], _ :: _, h => by simp [chNames] at h
  | i :: is, [], h => by simp [chNames] at h
  | i :: is, e :: es, h => by
    cases e with
    | Name x p =>
      unfold chNames at h
      rw [Bool.and_eq_true] at h
      obtain ⟨h1, h2, h3, h4⟩ := chNames_pg F h.2
      refine ⟨pgs_cons (okName_pg F h.1) h1, congrArg (· + 1) h2, congrArg (· + 1) h3, ?_⟩
      show (((false, assign (.Name x p) X.env) :: assignEach es X.env).findIdx? (·.1)) = none
      rw [List.findIdx?_cons, h4]
      rfl
    | _ => simp [chNames] at h
theorem chT_pg (F : Fit X G W Z c) {tg : Tg} {e : Expr} (h : chT c tg e = true) : PG X e (gT G.K tg) := by
  cases tg with
  | one i =>
    cases e with
    | Name x p => exact okName_pg F h
    | _ => simp [chT] at h
  | tup is =>
    cases e with
    | Tuple es k p =>
      obtain ⟨h1, h2, h3, h4⟩ := chNames_pg F (show chNames c is es = true from h)
      show PG X (.Tuple es k p) (gTup G.K is.length (gNames is))
      rw [← F.k]
      exact pg_tup F.calm h1 h3 h4
    | _ => simp [chT] at h
theorem glo_ok (F : Fit X G W Z c) {x : Str} (h : glo c.sc x = true) : Gl X x := by
  unfold glo at h
  show X.env.scope.names.lookup x = _
  rw [F.sc]
  simpa using h
theorem con_ok {d : D} {e : Expr} (h : conE d e = true) : ∃ v, PE X e (tC v) ∧ (∀ K N H, Rep K N H v d) ∧ (∀ whole, isTrue e X.env whole = (do let v ← whole; standAt e.pos; holding [v] (truthy v))) ∧ (∀ op vs pos, e ≠ .BoolOp op vs pos) := by
  unfold conE at h
  split at h
  · exact ⟨.non, pe_non, fun _ _ _ => .non, fun _ => rfl, fun _ _ _ z => nomatch z⟩
  · obtain rfl := of_decide_eq_true h
    exact ⟨.bl _, pe_bl, fun _ _ _ => .bl _, fun _ => rfl, fun _ _ _ z => nomatch z⟩
  · obtain rfl := of_decide_eq_true h
    exact ⟨.int _, pe_int, fun _ _ _ => .int _, fun _ => rfl, fun _ _ _ z => nomatch z⟩
  · obtain rfl := of_decide_eq_true h
    exact ⟨.str _, pe_str, fun _ _ _ => .str _, fun _ => rfl, fun _ _ _ z => nomatch z⟩
  · cases h
theorem ff {P : Prop} (h : false = true) : P := absurd h (by decide)
theorem and3 {a b : Bool} (h : (a && b) = true) : a = true ∧ b = true := Bool.and_eq_true_iff.mp h
theorem isYes_eq {t : Tm} (h : isYes t = true) : t = .con (.bool true) := by
  cases t with
  | con d =>
    cases d with
    | bool b =>
      cases b with
      | true => rfl
      | false => exact ff h
    | _ => exact ff h
  | _ => exact ff h
/-- a clause's tests -/
theorem tests_ok {ifs : List Expr} {t : Tm} {c' : Cn} (h : (match ifs with | [] => isYes t | [x] => ch t c' (.E x) | _ => false) = true)
    (ih : ∀ x, chE c' t x = true → PT Y x (rdT G W (esc false t) fun δ => (ev Z t δ).bind truth)) : PTs Y ifs (rdT G W (esc false t) fun δ => (ev Z t δ).bind truth) := by
  match ifs, h with
  | [], h =>
    obtain rfl := isYes_eq h
    exact ⟨fun pins s σ H Q I q => pts_nil.run pins s σ H Q I (by
      obtain ⟨N, δ, at_, q⟩ := q
      exact Fin.ok (a := true) q at_.tabs)⟩
  | [x], h => exact pts_one (ih x h)
  | _ :: _ :: _, h => cases h
end

/-! ### soundness -/
def P1 (G : Wd) (Z : Sem0) (t : Tm) : Prop := ∀ (X : Cx) (W : WX) (c : Cn) (e : Expr), Fit X G W Z c → chE c t e = true → Snd X G W e (fun fl => esc fl t) (ev Z t)
def P2 (G : Wd) (Z : Sem0) (t : Tm) : Prop := ∀ (X : Cx) (W : WX) (c : Cn) (es : List Expr), Fit X G W Z c → chA c t es = true → SndA X G W es (fun fl => esc fl t) (evs Z t)
def P3 (G : Wd) (Z : Sem0) (t : Tm) : Prop := ∀ a, t = .cons a .nil → P1 G Z a
theorem nostars_cons {e : Expr} {es : List Expr} (h : nostars (e :: es) = true) : notStar e = true ∧ nostars es = true := by
  unfold nostars at h
  rw [List.all_cons, Bool.and_eq_true] at h
  exact h
theorem isNilT_eq {t : Tm} (h : isNilT t = true) : t = .nil := by
  cases t <;> first | rfl | cases h
theorem SndI.imp {X : Cx} {G : Wd} {W : WX} {tg e : Expr} {A A' : Bool → List Nat} {f f' : Env → R (List D)} (h : SndI X G W tg e A f) (ha : ∀ fl i, i ∈ A fl → i ∈ A' fl) (hf : ∀ δ, f' δ = f δ) : SndI X G W tg e A' f' := by
  have e0 : f' = f := funext hf
  subst e0
  exact fun fl => pi_imp (h fl) fun σ H R ⟨N, δ, at_, q⟩ => ⟨N, δ, at_.sub (ha fl), q⟩
section
variable {G : Wd} {Z : Sem0}
theorem evs_one {a : Tm} {δ : Env} : evs Z (.cons a .nil) δ = (ev Z a δ).bind fun x => .ok [x] := by
  show ((ev Z a δ).bind fun x => R.bind (.ok []) fun xs => .ok (x :: xs)) = _
  cases ev Z a δ <;> rfl
theorem evs_one_bind {β : Type} {a : Tm} {δ : Env} {f : List D → EV.R β} : ((evs Z (.cons a .nil) δ).bind f) = (ev Z a δ).bind fun x => f [x] := by
  rw [evs_one]
  cases ev Z a δ <;> rfl
theorem mem_one {fl : Bool} {a : Tm} {i : Nat} (h : i ∈ esc fl a) : i ∈ esc fl (.cons a .nil) := List.mem_append_left _ h
theorem two_of {es : List Expr} (h : es.length = 1) : ∃ e, es = [e] := by
  match es, h with
  | [e], _ => exact ⟨e, rfl⟩
theorem iter_ok {X : Cx} {W : WX} {c : Cn} {k : Itk} {it : Tm} {tgx e : Expr} (F : Fit X G W Z c) (p2 : P2 G Z it) (p3 : P3 G Z it) (h : chI c k it tgx e = true) :
    SndI X G W tgx e (fun fl => escI fl k it) fun δ => (evs Z it δ).bind fun as => iterate k as := by
  have g := F.good
  cases it with
  | cons a b =>
    by_cases hk : k = .plain
    · subst hk
      obtain ⟨h1, h2⟩ := and3 (show (isNilT b && ch a c (.E e)) = true from h)
      obtain rfl := isNilT_eq h1
      exact (i_plain g (p3 a rfl X W c e F h2)).imp (fun fl i hi => mem_one hi) fun δ => evs_one_bind
    · have hsh : ∃ x p e1 es pos, e = .Call (.Name x p) (e1 :: es) [] pos := by
        cases e with
        | Call f as ks pos =>
          cases f with
          | Name x p =>
            cases as with
            | nil => cases k <;> first | exact absurd rfl hk | exact ff h
            | cons e1 es =>
              cases ks with
              | nil => exact ⟨x, p, e1, es, pos, rfl⟩
              | cons _ _ => cases k <;> first | exact absurd rfl hk | exact ff h
          | _ => cases k <;> first | exact absurd rfl hk | exact ff h
        | _ => cases k <;> first | exact absurd rfl hk | exact ff h
      obtain ⟨x, p, e1, es, pos, rfl⟩ := hsh
      have h' : (decide (x = itName k) && glo c.sc x && itLen k (es.length + 1) && nostars (e1 :: es) && itTup k tgx && ch a c (.E e1) && ch b c (.A es)) = true := by
        cases k <;> first | exact absurd rfl hk | exact h
      obtain ⟨h', hb⟩ := and3 h'
      obtain ⟨h', ha⟩ := and3 h'
      obtain ⟨h', htup⟩ := and3 h'
      obtain ⟨h', hst⟩ := and3 h'
      obtain ⟨h', hlen⟩ := and3 h'
      obtain ⟨hx, hgl⟩ := and3 h'
      obtain rfl := of_decide_eq_true hx
      obtain ⟨st1, st2⟩ := nostars_cons hst
      have hgx := glo_ok F hgl
      have hArgs : chA c (.cons a b) (e1 :: es) = true := by
        show (notStar e1 && ch a c (.E e1) && ch b c (.A es)) = true
        rw [st1, ha, hb]; rfl
      have sA := p2 X W c (e1 :: es) F hArgs
      cases k with
      | plain => exact absurd rfl hk
      | range =>
        have hm : X.mg "range" = none := F.bl _ (by decide +kernel)
        have hlen : (decide (es.length + 1 = 1) || decide (es.length + 1 = 2)) = true := hlen
        simp only [Bool.or_eq_true, decide_eq_true_eq] at hlen
        match es, hlen, sA, st2 with
        | [], _, sA, _ => exact (i_range1 g hm hgx sA (star_cons st1)).imp (fun fl i hi => hi) fun δ => rfl
        | [e2], _, sA, st2 => exact (i_range2 g hm hgx sA (by rw [star_cons st1, star_cons (nostars_cons st2).1]; rfl) (star_cons (nostars_cons st2).1)).imp (fun fl i hi => hi) fun δ => rfl
        | _ :: _ :: _, hl, _, _ => exact absurd hl (by simp)
      | enumerate =>
        have hm : X.mg "enumerate" = none := F.bl _ (by decide +kernel)
        have hlen : es.length + 1 = 1 := of_decide_eq_true hlen
        match es, hlen, sA with
        | [], _, sA =>
          cases tgx with
          | Tuple elts kk tpos => exact (i_enum g hm hgx sA (star_cons st1) rfl).imp (fun fl i hi => hi) fun δ => rfl
          | _ => exact ff htup
        | _ :: _, hl, _ => exact absurd hl (by simp)
      | zip =>
        have hm : X.mg "zip" = none := F.bl _ (by decide +kernel)
        have hlen : es.length + 1 = 2 := of_decide_eq_true hlen
        match es, hlen, sA, st2 with
        | [e2], _, sA, st2 =>
          cases tgx with
          | Tuple elts kk tpos => exact (i_zip2 g hm hgx sA (star_cons st1) (stars_any st2)).imp (fun fl i hi => hi) fun δ => rfl
          | _ => exact ff htup
        | [], hl, _, _ => exact absurd hl (by simp)
        | _ :: _ :: _, hl, _, _ => exact absurd hl (by simp)
      | reversed =>
        have hm : X.mg "reversed" = none := F.bl _ (by decide +kernel)
        have hlen : es.length + 1 = 1 := of_decide_eq_true hlen
        match es, hlen, hb with
        | [], _, hb =>
          have hbn : b = .nil := by
            cases b <;> first | rfl | exact ff hb
          subst hbn
          exact (i_rev g hm hgx (p3 a rfl X W c e1 F ha) (star_cons st1)).imp (fun fl i hi => mem_one hi) fun δ => evs_one_bind
        | _ :: _, hl, _ => exact absurd hl (by simp)
  | _ => exact ff h
theorem snd_all : ∀ t : Tm, P1 G Z t ∧ P2 G Z t ∧ P3 G Z t := by
  have noA : ∀ {t : Tm}, (∀ c es, chA c t es = false) → P2 G Z t := fun hh X W c es _ h => by rw [hh] at h; cases h
  have noE : ∀ {t : Tm}, (∀ c e, chE c t e = false) → P1 G Z t := fun hh X W c e _ h => by rw [hh] at h; cases h
  intro t
  induction t with
  | var i =>
    refine ⟨fun X W c e F h => ?_, noA fun _ _ => rfl, fun a z => by cases z⟩
    cases e with
    | Name x p =>
      obtain ⟨h, h4⟩ := and3 (show (decide (c.N[i]? = some x) && vis c.sc x && !(x == ("__debug__" : Str)) && !(x == ("__classdict__" : Str))) = true from h)
      obtain ⟨h, h3⟩ := and3 h
      obtain ⟨h1, h2⟩ := and3 h
      exact s_var F.good (by rw [F.N]; exact of_decide_eq_true h1) (by rw [F.sc]; exact vis_ok h2) (by simpa using h3) (by simpa using h4)
    | _ => exact ff h
  | con d =>
    refine ⟨fun X W c e F h => ?_, noA fun _ _ => rfl, fun a z => by cases z⟩
    obtain ⟨v, h1, h2, h3, h4⟩ := con_ok (X := X) (show conE d e = true from h)
    exact s_con F.good h1 (h2 G.K) h3 h4
  | glob gi =>
    refine ⟨fun X W c e F h => ?_, noA fun _ _ => rfl, fun a z => by cases z⟩
    cases e with
    | Name x p =>
      obtain ⟨h, h3⟩ := and3 (show (decide (c.gls[gi]? = some x) && glo c.sc x && !(x == ("__debug__" : Str))) = true from h)
      obtain ⟨h1, h2⟩ := and3 h
      obtain ⟨u, v, d, g1, g2, g3, g4⟩ := F.gl gi x (of_decide_eq_true h1)
      exact (s_con F.good (pe_glob (glo_ok F h2) g1 g2 (by simpa using h3)) g4 (fun _ => rfl) (fun _ _ _ z => nomatch z)).imp (fun fl i hi => hi) fun δ => g3
    | _ => exact ff h
  | nil =>
    refine ⟨noE fun _ _ => rfl, fun X W c es F h => ?_, fun a z => by cases z⟩
    cases es with
    | nil => exact a_nil
    | cons _ _ => exact ff h
  | cons a b iha ihb =>
    refine ⟨noE fun _ _ => rfl, fun X W c es F h => ?_, fun a' z => by cases z; exact iha.1⟩
    cases es with
    | nil => exact ff h
    | cons e es =>
      obtain ⟨h, h3⟩ := and3 (show (notStar e && ch a c (.E e) && ch b c (.A es)) = true from h)
      obtain ⟨h1, h2⟩ := and3 h
      exact a_cons (iha.1 X W c e F h2) (ihb.2.1 X W c es F h3) (star_cons h1)
  | tup a iha =>
    refine ⟨fun X W c e F h => ?_, noA fun _ _ => rfl, fun a z => by cases z⟩
    cases e with
    | Tuple es k p =>
      obtain ⟨h1, h2⟩ := and3 (show (decide (es.length ≤ 1000) && ch a c (.A es)) = true from h)
      exact s_tup F.good (iha.2.1 X W c es F h2) (of_decide_eq_true h1)
    | _ => exact ff h
  | lst a iha =>
    refine ⟨fun X W c e F h => ?_, noA fun _ _ => rfl, fun a z => by cases z⟩
    cases e with
    | List es p =>
      obtain ⟨h1, h2⟩ := and3 (show (decide (es.length ≤ 1000) && ch a c (.A es)) = true from h)
      exact s_lst F.good (iha.2.1 X W c es F h2) (of_decide_eq_true h1)
    | _ => exact ff h
  | rep a b iha ihb =>
    refine ⟨fun X W c e F h => ?_, noA fun _ _ => rfl, fun a z => by cases z⟩
    cases e with
    | BinOp e1 op e2 p =>
      cases e1 with
      | List es lp =>
        cases op with
        | Mult =>
          obtain ⟨h, h3⟩ := and3 (show (decide (es.length ≤ 1000) && ch a c (.A es) && ch b c (.E e2)) = true from h)
          obtain ⟨h1, h2⟩ := and3 h
          exact s_rep F.good (iha.2.1 X W c es F h2) (of_decide_eq_true h1) (ihb.1 X W c e2 F h3)
        | _ => exact ff h
      | _ => exact ff h
    | _ => exact ff h
  | bin op a b iha ihb =>
    refine ⟨fun X W c e F h => ?_, noA fun _ _ => rfl, fun a z => by cases z⟩
    cases e with
    | BinOp e1 op' e2 p =>
      obtain ⟨h, h3⟩ := and3 (show (decide (op = op') && ch a c (.E e1) && ch b c (.E e2)) = true from h)
      obtain ⟨h1, h2⟩ := and3 h
      obtain rfl := of_decide_eq_true h1
      exact s_bin F.good (iha.1 X W c e1 F h2) (ihb.1 X W c e2 F h3)
    | _ => exact ff h
  | un op a iha =>
    refine ⟨fun X W c e F h => ?_, noA fun _ _ => rfl, fun a z => by cases z⟩
    cases e with
    | UnaryOp op' e1 p =>
      obtain ⟨h, h3⟩ := and3 (show (decide (op = op') && !decide (op = .Not) && ch a c (.E e1)) = true from h)
      obtain ⟨h1, h2⟩ := and3 h
      obtain rfl := of_decide_eq_true h1
      exact s_un F.good (by simpa using h2) (iha.1 X W c e1 F h3)
    | _ => exact ff h
  | not a iha =>
    refine ⟨fun X W c e F h => ?_, noA fun _ _ => rfl, fun a z => by cases z⟩
    cases e with
    | UnaryOp op' e1 p =>
      obtain ⟨h1, h3⟩ := and3 (show (decide (op' = .Not) && ch a c (.E e1)) = true from h)
      obtain rfl := of_decide_eq_true h1
      exact s_not F.good (iha.1 X W c e1 F h3)
    | _ => exact ff h
  | bop k a b iha ihb =>
    refine ⟨fun X W c e F h => ?_, noA fun _ _ => rfl, fun a z => by cases z⟩
    cases e with
    | BoolOp op vs p =>
      match vs, h with
      | e1 :: e2 :: rest, h =>
        obtain ⟨h, h3⟩ := and3 (show (boIs k op && ch a c (.E e1) && ch b c (.E (boTail op e2 rest p))) = true from h)
        obtain ⟨h1, h2⟩ := and3 h
        obtain rfl := boIs_eq h1
        refine s_bop F.good (iha.1 X W c e1 F h2) ?_
        cases rest with
        | nil => exact s_one F.good (ihb.1 X W c e2 F h3)
        | cons r rs => exact ihb.1 X W c _ F h3
      | [], h => exact ff h
      | [_], h => exact ff h
    | _ => exact ff h
  | ite t a b iht iha ihb =>
    refine ⟨fun X W c e F h => ?_, noA fun _ _ => rfl, fun a z => by cases z⟩
    cases e with
    | IfExp e1 e2 e3 p =>
      obtain ⟨h, h3⟩ := and3 (show (ch t c (.E e1) && ch a c (.E e2) && ch b c (.E e3)) = true from h)
      obtain ⟨h1, h2⟩ := and3 h
      exact s_ite F.good (iht.1 X W c e1 F h1) (iha.1 X W c e2 F h2) (ihb.1 X W c e3 F h3)
    | _ => exact ff h
  | cmp op a b iha ihb =>
    refine ⟨fun X W c e F h => ?_, noA fun _ _ => rfl, fun a z => by cases z⟩
    cases e with
    | Compare e1 ops es p =>
      match ops, es, h with
      | [op'], [e2], h =>
        obtain ⟨h, h4⟩ := and3 (show (decide (op = op') && ch a c (.E e1) && ch b c (.E e2) && !behindInMarks op e2) = true from h)
        obtain ⟨h, h3⟩ := and3 h
        obtain ⟨h1, h2⟩ := and3 h
        obtain rfl := of_decide_eq_true h1
        exact s_cmp F.good (iha.1 X W c e1 F h2) (ihb.1 X W c e2 F h3) (by simpa using h4)
      | [], _, h => exact ff h
      | _ :: _ :: _, _, h => exact ff h
      | [_], [], h => exact ff h
      | [_], _ :: _ :: _, h => exact ff h
    | _ => exact ff h
  | chain op op' a b z iha ihb ihz =>
    refine ⟨fun X W c e F h => ?_, noA fun _ _ => rfl, fun a z => by cases z⟩
    cases e with
    | Compare e1 ops es p =>
      match ops, es, h with
      | [p1, p2], [e2, e3], h =>
        obtain ⟨h, h6⟩ := and3 (show (decide (op = p1) && decide (op' = p2) && ch a c (.E e1) && ch b c (.E e2) && ch z c (.E e3) && !lastMarks [op, op'] [e2, e3]) = true from h)
        obtain ⟨h, h5⟩ := and3 h
        obtain ⟨h, h4⟩ := and3 h
        obtain ⟨h, h3⟩ := and3 h
        obtain ⟨h1, h2⟩ := and3 h
        obtain rfl := of_decide_eq_true h1
        obtain rfl := of_decide_eq_true h2
        exact s_chain F.good (iha.1 X W c e1 F h3) (ihb.1 X W c e2 F h4) (ihz.1 X W c e3 F h5) (by simpa using h6)
      | [], _, h => exact ff h
      | [_], _, h => exact ff h
      | _ :: _ :: _ :: _, _, h => exact ff h
      | [_, _], [], h => exact ff h
      | [_, _], [_], h => exact ff h
      | [_, _], _ :: _ :: _ :: _, h => exact ff h
    | _ => exact ff h
  | call f as j ih =>
    refine ⟨fun X W c e F h => ?_, noA fun _ _ => rfl, fun a z => by cases z⟩
    cases e with
    | Call fn es ks p =>
      cases fn with
      | Name x px =>
        cases es with
        | nil => cases ks <;> exact ff h
        | cons e1 es =>
          cases ks with
          | nil =>
            obtain ⟨h, h5⟩ := and3 (show (fnOk c f j x && glo c.sc x && !(x == ("__debug__" : Str)) && nostars (e1 :: es) && ch as c (.A (e1 :: es))) = true from h)
            obtain ⟨h, h4⟩ := and3 h
            obtain ⟨h, h3⟩ := and3 h
            obtain ⟨h1, h2⟩ := and3 h
            obtain ⟨st1, st2⟩ := nostars_cons h4
            unfold fnOk at h1
            cases hf : c.fns[f]? with
            | none => rw [hf] at h1; cases h1
            | some q =>
              obtain ⟨y, n, nd⟩ := q
              rw [hf] at h1
              obtain ⟨h1, hj⟩ := and3 h1
              obtain rfl := of_decide_eq_true h1
              obtain ⟨hd, FC⟩ := F.calls f x n nd hf
              exact s_call F.good F.tk FC (glo_ok F h2) (ih.2.1 X W c _ F h5) ⟨j, by rw [hd]; exact of_decide_eq_true hj, rfl⟩ (by simpa using h3) (star_cons st1) (stars_any st2)
          | cons _ _ => exact ff h
      | _ => cases es <;> cases ks <;> exact ff h
    | _ => exact ff h
  | bi f as ih =>
    refine ⟨fun X W c e F h => ?_, noA fun _ _ => rfl, fun a z => by cases z⟩
    cases e with
    | Call fn es ks p =>
      cases fn with
      | Name x px =>
        cases es with
        | nil => cases ks <;> exact ff h
        | cons e1 es =>
          cases ks with
          | nil =>
            obtain ⟨h, h5⟩ := and3 (show (!decide (f = .bitlen) && decide (x = biName f) && glo c.sc x && nostars (e1 :: es) && ch as c (.A (e1 :: es))) = true from h)
            obtain ⟨h, h4⟩ := and3 h
            obtain ⟨h, h3⟩ := and3 h
            obtain ⟨h1, h2⟩ := and3 h
            obtain ⟨st1, st2⟩ := nostars_cons h4
            obtain rfl := of_decide_eq_true h2
            have hb : f ≠ .bitlen := by simpa using h1
            exact s_bi F.good hb (F.bl _ (biName_boot f hb).2.2.2) (glo_ok F h3) (ih.2.1 X W c _ F h5) (star_cons st1) (stars_any st2)
          | cons _ _ => exact ff h
      | Attribute e1 at_ ap =>
        cases es with
        | nil =>
          cases ks with
          | nil =>
            obtain ⟨h, h6⟩ := and3 (show (decide (f = .bitlen) && decide (at_ = ("bit_length" : Str)) && baseOk e1 && (ap.endLine == p.line) && notStar e1 && ch as c (.I .plain e1 e1)) = true from h)
            obtain ⟨h, h5⟩ := and3 h
            obtain ⟨h, h4⟩ := and3 h
            obtain ⟨h, h3⟩ := and3 h
            obtain ⟨h1, h2⟩ := and3 h
            obtain rfl := of_decide_eq_true h1
            obtain rfl := of_decide_eq_true h2
            cases as with
            | cons a b =>
              obtain ⟨h6, h7⟩ := and3 (show (isNilT b && ch a c (.E e1)) = true from h6)
              obtain rfl := isNilT_eq h6
              exact (s_bits F.good (ih.2.2 a rfl X W c e1 F h7) (base_ok h3) h4).imp (fun fl i hi => mem_one hi) fun δ => evs_one_bind
            | _ => exact ff h6
          | cons _ _ => exact ff h
        | cons _ _ => cases ks <;> exact ff h
      | _ => cases es <;> cases ks <;> exact ff h
    | _ => exact ff h
  | isi ty a ih =>
    refine ⟨fun X W c e F h => ?_, noA fun _ _ => rfl, fun a z => by cases z⟩
    cases e with
    | Call fn es ks p =>
      cases fn with
      | Name x px =>
        cases es with
        | nil => cases ks <;> exact ff h
        | cons e1 es =>
          cases ks with
          | nil =>
            obtain ⟨h, h6⟩ := and3 (show (decide (x = ("isinstance" : Str)) && glo c.sc x && tyArgs ty c.sc es && notStar e1 && ch a c (.E e1)) = true from h)
            obtain ⟨h, h5⟩ := and3 h
            obtain ⟨h, h3⟩ := and3 h
            obtain ⟨h1, h2⟩ := and3 h
            obtain rfl := of_decide_eq_true h1
            obtain ⟨py, rfl, h4⟩ := tyArgs_eq h3
            exact s_isi F.good (F.bl _ (by decide +kernel)) (glo_ok F h2) (F.bl _ (by cases ty <;> decide +kernel)) (glo_ok F h4) (ih.1 X W c e1 F h6) (star_cons h5) rfl
          | cons _ _ => exact ff h
      | _ => cases es <;> cases ks <;> exact ff h
    | _ => exact ff h
  | ix a i iha ihi =>
    refine ⟨fun X W c e F h => ?_, noA fun _ _ => rfl, fun a z => by cases z⟩
    cases e with
    | Subscript e1 e2 p =>
      obtain ⟨h, h3⟩ := and3 (show (ch a c (.E e1) && ch i c (.E e2) && notSlice e2) = true from h)
      obtain ⟨h1, h2⟩ := and3 h
      exact s_ix F.good (iha.1 X W c e1 F h1) (ihi.1 X W c e2 F h2) (plain_ix h3)
    | _ => exact ff h
  | comp tg k it t e ihit iht ihe =>
    refine ⟨fun X W c e' F h => ?_, noA fun _ _ => rfl, fun a z => by cases z⟩
    cases e' with
    | ListComp elt gs scope p =>
      replace h : (match gen1 gs with
        | some (tgx, iter, ifs) => ch it c (.I k tgx iter) && chBlk c.N c.sc scope tg.slots && chT (blkC c scope) tg tgx && notSet iter &&
          (match ifs with | [] => isYes t | [x] => ch t (blkC c scope) (.E x) | _ => false) && ch e (blkC c scope) (.E elt)
        | none => false) = true := h
      cases hg : gen1 gs with
      | none => rw [hg] at h; cases h
      | some q =>
        obtain ⟨tgx, iter, ifs⟩ := q
        rw [hg] at h
        obtain rfl := gen1_eq hg
        obtain ⟨h, h6⟩ := and3 h
        obtain ⟨h, h5⟩ := and3 h
        obtain ⟨h, h4⟩ := and3 h
        obtain ⟨h, h3⟩ := and3 h
        obtain ⟨h1, h2⟩ := and3 h
        have sI := iter_ok F ihit.2.1 ihit.2.2 h1
        refine (s_comp (own := ownOf c.N tg.slots) (Ac := esc false t) (Ae := esc true e) (fc := ev Z t) (fe := ev Z e) F.good (by rw [F.N]; exact F.nd) sI (by rw [F.N, F.sc]; exact blk_ok h2) (fun i hi => by rw [ownOf_snd] at hi; exact hi) (fun i hi => by rw [ownOf_snd]; exact hi)
          (fun s H C cl fp => chT_pg (F.blk s H scope C cl fp) h3) (fun s H C cl fp => tests_ok h5 fun x hx => (iht.1 _ _ _ _ (F.blk s H scope C cl fp) hx).pt) (fun s H C cl fp => (ihe.1 _ _ _ _ (F.blk s H scope C cl fp) h6).pe true) (fold_ok h4)).imp (fun fl i hi => ?_) fun δ => ?_
        · rcases List.mem_append.mp hi with z | z
          · refine List.mem_append_left _ ?_
            unfold escI at z
            split at z <;> exact z
          · exact List.mem_append_right _ z
        · show ((evs Z it δ).bind fun as => (iterate k as).bind fun ds => _) = _
          dsimp only [fComp]
          cases evs Z it δ <;> rfl
    | _ => exact ff h
  | comp2 tg k it t tg1 k1 it1 t1 e ihit iht ihit1 iht1 ihe =>
    refine ⟨fun X W c e' F h => ?_, noA fun _ _ => rfl, fun a z => by cases z⟩
    cases e' with
    | ListComp elt gs scope p =>
      replace h : (match gen2 gs with
        | some ((tgx, iter, ifs), (tgx1, iter1, ifs1)) => ch it c (.I k tgx iter) && chBlk c.N c.sc scope (tg.slots ++ tg1.slots) && chT (blkC c scope) tg tgx && chT (blkC c scope) tg1 tgx1 && notSet iter && notSet iter1 &&
          (match ifs with | [] => isYes t | [x] => ch t (blkC c scope) (.E x) | _ => false) && ch it1 (blkC c scope) (.I k1 tgx1 iter1) &&
          (match ifs1 with | [] => isYes t1 | [x] => ch t1 (blkC c scope) (.E x) | _ => false) && ch e (blkC c scope) (.E elt)
        | none => false) = true := h
      cases hg : gen2 gs with
      | none => rw [hg] at h; cases h
      | some q =>
        obtain ⟨⟨tgx, iter, ifs⟩, ⟨tgx1, iter1, ifs1⟩⟩ := q
        rw [hg] at h
        obtain rfl := gen2_eq hg
        obtain ⟨h, h10⟩ := and3 h
        obtain ⟨h, h9⟩ := and3 h
        obtain ⟨h, h8⟩ := and3 h
        obtain ⟨h, h7⟩ := and3 h
        obtain ⟨h, h6⟩ := and3 h
        obtain ⟨h, h5⟩ := and3 h
        obtain ⟨h, h4⟩ := and3 h
        obtain ⟨h, h3⟩ := and3 h
        obtain ⟨h1, h2⟩ := and3 h
        have sI := iter_ok F ihit.2.1 ihit.2.2 h1
        refine (s_comp2 (own := ownOf c.N (tg.slots ++ tg1.slots)) (tg := tg) (tg1 := tg1) (Ac := esc false t) (Ae := esc true e) (Ai1 := escI true k1 it1) (Ac1 := esc false t1) (fc := ev Z t) (fe := ev Z e) (fc1 := ev Z t1) (fi1 := fun δ => (evs Z it1 δ).bind fun as => iterate k1 as) F.good (by rw [F.N]; exact F.nd) sI (by rw [F.N, F.sc]; exact blk_ok h2) (fun i hi => by rw [ownOf_snd] at hi; exact List.mem_append.mp hi) (fun i hi => by rw [ownOf_snd]; exact List.mem_append_left _ hi) (fun i hi => by rw [ownOf_snd]; exact List.mem_append_right _ hi)
          (fun s H C cl fp => chT_pg (F.blk s H scope C cl fp) h3) (fun s H C cl fp => tests_ok h7 fun x hx => (iht.1 _ _ _ _ (F.blk s H scope C cl fp) hx).pt) (fun s H C cl fp => iter_ok (F.blk s H scope C cl fp) ihit1.2.1 ihit1.2.2 h8 true) (fun s H C cl fp => chT_pg (F.blk s H scope C cl fp) h4)
          (fun s H C cl fp => tests_ok h9 fun x hx => (iht1.1 _ _ _ _ (F.blk s H scope C cl fp) hx).pt) (fun s H C cl fp => (ihe.1 _ _ _ _ (F.blk s H scope C cl fp) h10).pe true) (fold_ok h5) (fun env x => fold_ok h6 x)).imp (fun fl i hi => ?_) fun δ => ?_
        · rcases List.mem_append.mp hi with z | z
          · refine List.mem_append_left _ ?_
            unfold escI at z
            split at z <;> exact z
          · exact List.mem_append_right _ z
        · show ((evs Z it δ).bind fun as => (iterate k as).bind fun ds => _) = _
          dsimp only [fComp2]
          cases evs Z it δ <;> rfl
    | _ => exact ff h
  | gen u tg k it e ihit ihe =>
    refine ⟨fun X W c e' F h => ?_, noA fun _ _ => rfl, fun a z => by cases z⟩
    cases e' with
    | Call fn es ks p =>
      cases fn with
      | Name x px =>
        cases ks with
        | nil =>
          replace h : (match genx es with
            | some (elt, tgx, iter, scope) => c.gens && decide (x = (gBool u : Str)) && glo c.sc x && ch it c (.I k tgx iter) && chBlk c.N c.sc scope tg.slots && chT (genC c scope) tg tgx && notSetList iter &&
              !scope.isCoroutine && scope.names.all (fun y => !decide (y.2 = .cell)) && decide (scope.names.lookup (".0" : Str) = some .local) && ch e (genC c scope) (.E elt)
            | none => false) = true := h
          cases hg : genx es with
          | none => rw [hg] at h; cases h
          | some q =>
            obtain ⟨elt, tgx, iter, scope⟩ := q
            rw [hg] at h
            obtain ⟨gp, rfl⟩ := genx_eq hg
            obtain ⟨h, h11⟩ := and3 h
            obtain ⟨h, h10⟩ := and3 h
            obtain ⟨h, h9⟩ := and3 h
            obtain ⟨h, h8⟩ := and3 h
            obtain ⟨h, h7⟩ := and3 h
            obtain ⟨h, h6⟩ := and3 h
            obtain ⟨h, h5⟩ := and3 h
            obtain ⟨h, h4⟩ := and3 h
            obtain ⟨h, h3⟩ := and3 h
            obtain ⟨h1, h2⟩ := and3 h
            obtain rfl := of_decide_eq_true h2
            have sI := iter_ok F ihit.2.1 ihit.2.2 h4
            have hr := F.room
            rw [h1] at hr
            refine (s_gen (own := ownOf c.N tg.slots) (Ae := fun fl => esc fl e) (fe := ev Z e) F.good (by rw [F.N]; exact F.nd) hr (glo_ok F h3) (F.bl _ (by cases u <;> decide +kernel)) (F.cx h1) sI
              ⟨by rw [F.N, F.sc]; exact blk_ok h5, by simpa using h8, fun y hy => by simpa using List.all_eq_true.mp h9 y hy, of_decide_eq_true h10⟩ (fun i hi => by rw [ownOf_snd] at hi; exact hi) (fun i hi => by rw [ownOf_snd]; exact hi) (gfold_ok h7)
              (fun Y S => ⟨chT_pg (F.gen h1 S) h6, (ihe.1 _ _ _ _ (F.gen h1 S) h11).pe false⟩) rfl).imp (fun fl i hi => ?_) fun δ => ?_
            · rcases List.mem_append.mp hi with z | z
              · refine List.mem_append_left _ ?_
                unfold escI at z
                split at z <;> exact z
              · exact List.mem_append_right _ z
            · show ((evs Z it δ).bind fun as => (iterate k as).bind fun ds => _) = _
              cases evs Z it δ <;> rfl
        | cons _ _ => exact ff h
      | _ => cases ks <;> exact ff h
    | _ => exact ff h
end
end EV

set_option Elab.async false
set_option linter.all false
set_option maxRecDepth 100000
set_option maxHeartbeats 2000000
/-! EvQ: the state of a def's body: which slots own their lists. -/
namespace EV
open PySem PySem.Spec PyProof.Rows L2

/-- the cells of values: all that may be had but the owned ones -/
def NN (Nc : Addr → Prop) (O : List Nat) (σ : L2.St) (δ : Env) : Addr → Prop := fun a => Nc a ∧ ∀ i d, i ∈ O → δ[i]? = some (some d) → σ[i]? ≠ some (some (.ref a))
structure SR (G : Wd) (Nc Fb : Addr → Prop) (H0 : Hp) (O : List Nat) (σ : L2.St) (H : Hp) (δ : Env) : Prop where
  nc : NewOk Nc H
  tabs : TabsOk G.T H
  len : σ.length = δ.length
  fb : ∀ b, Fb b → H0 b ≠ none
  keep : ∀ b o, Fb b → H0 b = some o → (∀ ps, o ≠ .tbl ps) → H b = some o
  dom : ∀ b, H b = none → H0 b = none
  env : ∀ i d, i ∉ O → δ[i]? = some (some d) → ∃ v, σ[i]? = some (some v) ∧ Rep G.K (NN Nc O σ δ) H v d
  own : ∀ i d, i ∈ O → δ[i]? = some (some d) → ∃ a xs ds, σ[i]? = some (some (.ref a)) ∧ d = .list ds ∧ Nc a ∧ ¬ Fb a ∧ H a = some (.lst xs) ∧ xs.length ≤ LN ∧ Reps G.K (NN Nc O σ δ) H xs ds
  dist : ∀ i j a d e, i ∈ O → j ∈ O → δ[i]? = some (some d) → δ[j]? = some (some e) → σ[i]? = some (some (.ref a)) → σ[j]? = some (some (.ref a)) → i = j
section
variable {G : Wd} {Nc Fb : Addr → Prop} {H0 H H' : Hp} {O O' : List Nat} {σ : L2.St} {δ : Env}
theorem SR.new (S : SR G Nc Fb H0 O σ H δ) : NewOk (NN Nc O σ δ) H := fun a e => ⟨S.nc a e, fun i d hi hd z => by
  obtain ⟨a', xs, ds, h1, _, _, _, h5, _⟩ := S.own i d hi hd
  rw [z] at h1
  cases h1
  rw [e] at h5
  cases h5⟩
theorem SR.at (S : SR G Nc Fb H0 O σ H δ) {A : List Nat} (h : ∀ i ∈ A, i ∉ O) : At G A (NN Nc O σ δ) σ H δ := by
  refine ⟨S.new, S.tabs, fun i d hd => ?_, S.len⟩
  by_cases hi : i ∈ O
  · obtain ⟨a, xs, ds, h1, h2, _, _, h5, h6, h7⟩ := S.own i d hi hd
    exact ⟨_, h1, by rw [h2]; exact .lst h5 h6 h7, fun z => absurd hi (h i z)⟩
  · obtain ⟨v, h1, h2⟩ := S.env i d hi hd
    exact ⟨v, h1, .of h2, fun _ => h2⟩
theorem SR.weak (S : SR G Nc Fb H0 O σ H δ) (h : ∀ i ∈ O', i ∈ O) : SR G Nc Fb H0 O' σ H δ := by
  have mn : ∀ a, NN Nc O σ δ a → NN Nc O' σ δ a := fun a n => ⟨n.1, fun i d hi hd => n.2 i d (h i hi) hd⟩
  refine ⟨S.nc, S.tabs, S.len, S.fb, S.keep, S.dom, fun i d hi hd => ?_, fun i d hi hd => ?_, fun i j a d e hi hj => S.dist i j a d e (h i hi) (h j hj)⟩
  · by_cases ho : i ∈ O
    · obtain ⟨a, xs, ds, h1, h2, h3, _, h5, h6, h7⟩ := S.own i d ho hd
      refine ⟨_, h1, ?_⟩
      rw [h2]
      refine .lst (.inl ⟨.inl h5, h3, fun j e hj he z => ?_⟩) h6 (h7.mono mn)
      have := S.dist i j a d e ho (h j hj) hd he h1 z
      exact hi (this ▸ hj)
    · obtain ⟨v, h1, h2⟩ := S.env i d ho hd
      exact ⟨v, h1, h2.mono mn⟩
  · obtain ⟨a, xs, ds, h1, h2, h3, h4, h5, h6, h7⟩ := S.own i d (h i hi) hd
    exact ⟨a, xs, ds, h1, h2, h3, h4, h5, h6, h7.mono mn⟩
theorem SR.ext (S : SR G Nc Fb H0 O σ H δ) (x : Ext H H') (t : TabsOk G.T H') : SR G Nc Fb H0 O σ H' δ := by
  refine ⟨S.nc.ext x, t, S.len, S.fb, fun b o hb e n => x.keep b o (S.keep b o hb e n) n, fun b e => S.dom b (x.dom b e), fun i d hi hd => ?_, fun i d hi hd => ?_, S.dist⟩
  · obtain ⟨v, h1, h2⟩ := S.env i d hi hd
    exact ⟨v, h1, h2.ext x⟩
  · obtain ⟨a, xs, ds, h1, h2, h3, h4, h5, h6, h7⟩ := S.own i d hi hd
    exact ⟨a, xs, ds, h1, h2, h3, h4, x.keep a _ h5 (fun _ z => nomatch z), h6, h7.ext x⟩
/-- a slot that owns nothing gets a value -/
theorem SR.set (S : SR G Nc Fb H0 O σ H δ) {i : Nat} {v : V} {d : D} (hi : i ∉ O) (r : Rep G.K (NN Nc O σ δ) H v d) : SR G Nc Fb H0 O (σ.set i (some v)) H (δ.set i (some d)) := by
  have ne : ∀ j ∈ O, i ≠ j := fun j hj z => hi (z ▸ hj)
  have hδ : ∀ j ∈ O, (δ.set i (some d))[j]? = δ[j]? := fun j hj => List.getElem?_set_ne (ne j hj)
  have hσ : ∀ j ∈ O, (σ.set i (some v))[j]? = σ[j]? := fun j hj => List.getElem?_set_ne (ne j hj)
  have mn : ∀ a, NN Nc O σ δ a → NN Nc O (σ.set i (some v)) (δ.set i (some d)) a := fun a n => ⟨n.1, fun j e hj he => by
    rw [hδ j hj] at he
    rw [hσ j hj]
    exact n.2 j e hj he⟩
  refine ⟨S.nc, S.tabs, by rw [List.length_set, List.length_set]; exact S.len, S.fb, S.keep, S.dom, fun j e hj he => ?_, fun j e hj he => ?_, fun j k a e e' hj hk h1 h2 h3 h4 => ?_⟩
  · by_cases hij : i = j
    · subst hij
      by_cases hl : i < δ.length
      · rw [List.getElem?_set_self hl] at he
        cases he
        exact ⟨v, by rw [List.getElem?_set_self (by rw [S.len]; exact hl)], r.mono mn⟩
      · rw [List.getElem?_eq_none (by rw [List.length_set]; omega)] at he; cases he
    · rw [List.getElem?_set_ne hij] at he
      obtain ⟨w, h1, h2⟩ := S.env j e hj he
      exact ⟨w, by rw [List.getElem?_set_ne hij]; exact h1, h2.mono mn⟩
  · rw [hδ j hj] at he
    obtain ⟨a, xs, ds, h1, h2, h3, h4, h5, h6, h7⟩ := S.own j e hj he
    exact ⟨a, xs, ds, by rw [hσ j hj]; exact h1, h2, h3, h4, h5, h6, h7.mono mn⟩
  · rw [hδ j hj] at h1
    rw [hδ k hk] at h2
    rw [hσ j hj] at h3
    rw [hσ k hk] at h4
    exact S.dist j k a e e' hj hk h1 h2 h3 h4
/-- a slot gets a list that nobody knows -/
theorem SR.setOwn (S : SR G Nc Fb H0 O σ H δ) {i : Nat} {p : Addr} {xs : List V} {ds : List D} (hi : i ∉ O) (x : Ext H H') (t : TabsOk G.T H') (hp : H p = none) (hp' : H' p = some (.lst xs)) (hl : xs.length ≤ LN) (r : Reps G.K (but (NN Nc O σ δ) p) H' xs ds) :
    SR G Nc Fb H0 (i :: O) (σ.set i (some (.ref p))) H' (δ.set i (some (.list ds))) := by
  have ne : ∀ j ∈ O, i ≠ j := fun j hj z => hi (z ▸ hj)
  have hδ : ∀ j ∈ O, (δ.set i (some (.list ds)))[j]? = δ[j]? := fun j hj => List.getElem?_set_ne (ne j hj)
  have hσ : ∀ j ∈ O, (σ.set i (some (.ref p)))[j]? = σ[j]? := fun j hj => List.getElem?_set_ne (ne j hj)
  have mn : ∀ a, but (NN Nc O σ δ) p a → NN Nc (i :: O) (σ.set i (some (.ref p))) (δ.set i (some (.list ds))) a := fun a n => ⟨n.1.1, fun j e hj he => by
    rcases List.mem_cons.mp hj with z | z
    · subst z
      intro q
      by_cases hl : j < σ.length
      · rw [List.getElem?_set_self hl] at q
        cases q
        exact n.2 rfl
      · rw [List.getElem?_eq_none (by rw [List.length_set]; omega)] at q; cases q
    · rw [hδ j z] at he
      rw [hσ j z]
      exact n.1.2 j e z he⟩
  have Sx := S.ext x t
  refine ⟨Sx.nc, t, by rw [List.length_set, List.length_set]; exact S.len, S.fb, Sx.keep, Sx.dom, fun j e hj he => ?_, fun j e hj he => ?_, fun j k a e e' hj hk h1 h2 h3 h4 => ?_⟩
  · have hij : i ≠ j := fun z => hj (by rw [z]; exact List.mem_cons_self)
    rw [List.getElem?_set_ne hij] at he
    obtain ⟨w, h1, h2⟩ := S.env j e (fun z => hj (List.mem_cons_of_mem _ z)) he
    exact ⟨w, by rw [List.getElem?_set_ne hij]; exact h1, (h2.to (toBut x hp)).mono mn⟩
  · rcases List.mem_cons.mp hj with z | z
    · subst z
      by_cases hlt : j < δ.length
      · rw [List.getElem?_set_self hlt] at he
        cases he
        exact ⟨p, xs, ds, by rw [List.getElem?_set_self (by rw [S.len]; exact hlt)], rfl, S.nc p hp, fun z => S.fb p z (S.dom p hp), hp', hl, r.mono mn⟩
      · rw [List.getElem?_eq_none (by rw [List.length_set]; omega)] at he; cases he
    · rw [hδ j z] at he
      obtain ⟨a, ys, es, h1, h2, h3, h4, h5, h6, h7⟩ := S.own j e z he
      exact ⟨a, ys, es, by rw [hσ j z]; exact h1, h2, h3, h4, x.keep a _ h5 (fun _ z => nomatch z), h6, (h7.to (toBut x hp)).mono mn⟩
  · have key : ∀ j e, j ∈ O → δ[j]? = some (some e) → σ[j]? ≠ some (some (.ref p)) := fun j e hj he z => by
      obtain ⟨a, ys, es, h1, _, _, _, h5, _⟩ := S.own j e hj he
      rw [z] at h1
      cases h1
      rw [hp] at h5
      cases h5
    have self : ∀ {a : Addr}, (σ.set i (some (.ref p)))[i]? = some (some (.ref a)) → a = p := fun {a} q => by
      by_cases hl : i < σ.length
      · rw [List.getElem?_set_self hl] at q
        cases q
        rfl
      · rw [List.getElem?_eq_none (by rw [List.length_set]; omega)] at q; cases q
    rcases List.mem_cons.mp hj with z | z
    · rcases List.mem_cons.mp hk with z' | z'
      · rw [z, z']
      · rw [z] at h3
        have e1 := self h3
        rw [hδ k z'] at h2
        rw [hσ k z', e1] at h4
        exact absurd h4 (key k e' z' h2)
    · rcases List.mem_cons.mp hk with z' | z'
      · rw [z'] at h4
        have e1 := self h4
        rw [hδ j z] at h1
        rw [hσ j z, e1] at h3
        exact absurd h3 (key j e z h1)
      · rw [hδ j z] at h1
        rw [hδ k z'] at h2
        rw [hσ j z] at h3
        rw [hσ k z'] at h4
        exact S.dist j k a e e' z z' h1 h2 h3 h4
/-- an owned list is written -/
theorem SR.write (S : SR G Nc Fb H0 O σ H δ) {i : Nat} {a : Addr} {d : D} {zs : List V} {es : List D} (hi : i ∈ O) (hd : δ[i]? = some (some d)) (hs : σ[i]? = some (some (.ref a))) (hl : zs.length ≤ LN) (r : Reps G.K (NN Nc O σ δ) H zs es) :
    SR G Nc Fb H0 O σ (upd H a (.lst zs)) (δ.set i (some (.list es))) := by
  obtain ⟨a', xs, ds, h1, h2, h3, h4, h5, h6, h7⟩ := S.own i d hi hd
  rw [hs] at h1
  cases h1
  have il : i < δ.length := (List.getElem?_eq_some_iff.mp hd).1
  have nn : ∀ b, NN Nc O σ δ b → b ≠ a := fun b n z => n.2 i d hi hd (by rw [hs, z])
  have mn : ∀ b u, NN Nc O σ δ b → isData u = true → Rd H b u → Rd (upd H a (.lst zs)) b u ∧ NN Nc O σ (δ.set i (some (.list es))) b := fun b u n _ q => by
    refine ⟨rd_updD q (nn b n), n.1, fun j e hj he => ?_⟩
    by_cases hij : i = j
    · subst hij; exact n.2 i d hi hd
    · rw [List.getElem?_set_ne hij] at he; exact n.2 j e hj he
  refine ⟨fun b e => ?_, S.tabs.updD h5, by rw [List.length_set]; exact S.len, S.fb, fun b o hb e n => ?_, fun b e => ?_, fun j e hj he => ?_, fun j e hj he => ?_, fun j k c e e' hj hk q1 q2 q3 q4 => ?_⟩
  · by_cases hb : b = a
    · rw [hb, upd_same] at e; cases e
    · rw [upd_ne hb] at e; exact S.nc b e
  · rw [upd_ne (fun z => h4 (by rw [← z]; exact hb))]; exact S.keep b o hb e n
  · by_cases hb : b = a
    · rw [hb, upd_same] at e; cases e
    · rw [upd_ne hb] at e; exact S.dom b e
  · have hij : i ≠ j := fun z => hj (z ▸ hi)
    rw [List.getElem?_set_ne hij] at he
    obtain ⟨v, k1, k2⟩ := S.env j e hj he
    exact ⟨v, k1, k2.to mn⟩
  · by_cases hij : i = j
    · subst hij
      rw [List.getElem?_set_self il] at he
      cases he
      exact ⟨a, zs, es, hs, rfl, h3, h4, upd_same, hl, r.to mn⟩
    · rw [List.getElem?_set_ne hij] at he
      obtain ⟨b, ys, fs, k1, k2, k3, k4, k5, k6, k7⟩ := S.own j e hj he
      have hb : b ≠ a := fun z => hij (S.dist i j a d e hi hj hd he hs (by rw [k1, z]))
      exact ⟨b, ys, fs, k1, k2, k3, k4, by rw [upd_ne hb]; exact k5, k6, k7.to mn⟩
  · have o : ∀ m f, (δ.set i (some (.list es)))[m]? = some (some f) → ∃ f', δ[m]? = some (some f') := fun m f q => by
      by_cases him : i = m
      · subst him; exact ⟨d, hd⟩
      · rw [List.getElem?_set_ne him] at q; exact ⟨f, q⟩
    obtain ⟨f1, q1⟩ := o j e q1
    obtain ⟨f2, q2⟩ := o k e' q2
    exact S.dist j k c f1 f2 hj hk q1 q2 q3 q4
/-- a new frame within: what must stay from here on -/
theorem SR.inner (S : SR G Nc Fb H0 O σ H δ) {kp : Addr → Prop} (hk : ∀ b, kp b → NN Nc O σ δ b) : SR G Nc (fun b => H b ≠ none ∧ (Fb b ∨ kp b)) H O σ H δ := by
  refine ⟨S.nc, S.tabs, S.len, fun b h => h.1, fun b o _ e _ => e, fun b e => e, S.env, fun i d hi hd => ?_, S.dist⟩
  obtain ⟨a, xs, ds, h1, h2, h3, h4, h5, h6, h7⟩ := S.own i d hi hd
  refine ⟨a, xs, ds, h1, h2, h3, fun z => ?_, h5, h6, h7⟩
  rcases z.2 with z | z
  · exact h4 z
  · exact (hk a z).2 i d hi hd h1
theorem SR.outer {σ1 : L2.St} {δ1 : Env} {H1 : Hp} {O1 : List Nat} (S : SR G Nc Fb H0 O σ H δ) {kp : Addr → Prop} (T : SR G Nc (fun b => H b ≠ none ∧ (Fb b ∨ kp b)) H O1 σ1 H1 δ1) : SR G Nc Fb H0 O1 σ1 H1 δ1 := by
  have up : ∀ b, Fb b → H b ≠ none := fun b hb e => S.fb b hb (S.dom b e)
  refine ⟨T.nc, T.tabs, T.len, S.fb, fun b o hb e n => T.keep b o ⟨up b hb, .inl hb⟩ (S.keep b o hb e n) n, fun b e => S.dom b (T.dom b e), T.env, fun i d hi hd => ?_, T.dist⟩
  obtain ⟨a, xs, ds, h1, h2, h3, h4, h5, h6, h7⟩ := T.own i d hi hd
  exact ⟨a, xs, ds, h1, h2, h3, fun z => h4 ⟨up a z, .inl z⟩, h5, h6, h7⟩
end
/-! ### the readings of statements -/
section
variable (G : Wd) (W : WX)
/-- what must stay has stayed -/
def Kept (Fb : Addr → Prop) (H0 H : Hp) : Prop := (∀ b o, Fb b → H0 b = some o → (∀ ps, o ≠ .tbl ps) → H b = some o) ∧ ∀ b, H b = none → H0 b = none
def Post (Nc Fb : Addr → Prop) (H0 : Hp) (O L : List Nat) (r : R Out) (Dn : Ends) : Prop := match r with
  | .ok (.nx δ) => ∀ σ H, SR G Nc Fb H0 O σ H δ → Dn.nx σ H
  | .ok (.bk δ) => ∀ σ H, SR G Nc Fb H0 L σ H δ → Dn.bk σ H
  | .ok (.ct δ) => ∀ σ H, SR G Nc Fb H0 L σ H δ → Dn.ct σ H
  | .ok (.rt d) => ∀ v H, Kept Fb H0 H → TabsOk G.T H → Rep G.K Nc H v d → Dn.rt v H
  | .exc c => ∀ σ H, Kept Fb H0 H → TabsOk G.T H → W (G.cls c) none σ H
  | .bad => False
def rdS (O O' L : List Nat) (f : Env → R Out) : TS := fun Dn σ H => ∃ Nc Fb H0 δ, SR G Nc Fb H0 O σ H δ ∧ Post G W Nc Fb H0 O' L (f δ) Dn
end
theorem SR.kept {G : Wd} {Nc Fb : Addr → Prop} {H0 H : Hp} {O : List Nat} {σ : L2.St} {δ : Env} (S : SR G Nc Fb H0 O σ H δ) : Kept Fb H0 H := ⟨S.keep, S.dom⟩
theorem ps_imp {X : Cx} {st : Stmt} {t t' : TS} (h : PS X st t) (w : ∀ Dn σ H, t' Dn σ H → t Dn σ H) : PS X st t' := ⟨fun pins s σ H Dn I q => h.run pins s σ H Dn I (w Dn σ H q)⟩
theorem pss_imp {X : Cx} {st : List Stmt} {t t' : TS} (h : PSs X st t) (w : ∀ Dn σ H, t' Dn σ H → t Dn σ H) : PSs X st t' := ⟨fun pins s σ H Dn I q => h.run pins s σ H Dn I (w Dn σ H q)⟩
end EV

set_option Elab.async false
set_option linter.all false
set_option maxRecDepth 100000
set_option maxHeartbeats 2000000
/-! EvR: the rules of statements. -/
namespace EV
open PySem PySem.Spec PyProof.Rows L2

section
variable {X : Cx} {G : Wd} {W : WX} {Nc Fb : Addr → Prop} {H0 H H' : Hp} {O O' O1 L : List Nat} {σ : L2.St} {δ δ' : Env} {α : Type} {Dn : Ends}
theorem Post.fin {fe : R α} {k : α → R Out} (S : SR G Nc Fb H0 O σ H δ) (p : Post G W Nc Fb H0 O' L (fe.bind k) Dn) : Fin G W σ fe H fun a H' => SR G Nc Fb H0 O σ H' δ ∧ Post G W Nc Fb H0 O' L (k a) Dn := by
  cases fe with
  | ok a => exact fun H' x t => ⟨S.ext x t, p⟩
  | exc c => exact fun H' x t => p σ H' (S.ext x t).kept t
  | bad => exact p
theorem NN_set {i : Nat} {v : V} {d : D} (hi : i ∉ O) {a : Addr} (n : NN Nc O σ δ a) : NN Nc O (σ.set i (some v)) (δ.set i (some d)) a :=
  ⟨n.1, fun j e hj he => by
    have ne : i ≠ j := fun z => hi (z ▸ hj)
    rw [List.getElem?_set_ne ne] at he ⊢
    exact n.2 j e hj he⟩
theorem SR.setAll : ∀ {is : List Nat} {vs : List V} {ds : List D} {σ : L2.St} {δ δ' : Env}, SR G Nc Fb H0 O σ H δ → EV.setAll is ds δ = some δ' → Reps G.K (NN Nc O σ δ) H vs ds → (∀ i ∈ is, i ∉ O) → SR G Nc Fb H0 O (setV is vs σ) H δ' ∧ vs.length = is.length
  | [], _, _, _, _, _, S, e, .nil, _ => by
    cases e
    exact ⟨S, rfl⟩
  | [], _, _, _, _, _, _, e, .cons _ _, _ => by cases e
  | _ :: _, _, _, _, _, _, _, e, .nil, _ => by cases e
  | i :: is, v :: vs, d :: ds, σ, δ, δ', S, e, .cons r t, h => by
    have hi := h i List.mem_cons_self
    obtain ⟨a, b⟩ := SR.setAll (is := is) (S.set hi r) (show EV.setAll is ds (δ.set i (some d)) = some δ' from e) (t.mono fun a n => NN_set hi n) fun j hj => h j (List.mem_cons_of_mem _ hj)
    exact ⟨a, congrArg (· + 1) b⟩
end

section
variable {X : Cx} {G : Wd} {W : WX} {O O' O1 O2 L : List Nat} {st : Stmt} {rest : List Stmt} {f f1 f2 : Env → R Out} {fe : Env → R D} {fr : Env → R (List D)} {e e1 e2 : Expr} {es : List Expr} {A A1 A2 : List Nat} {pos : Pos}
theorem q_nil : PSs X [] (rdS G W O O L fun δ => .ok (.nx δ)) := pss_imp pss_nil fun Dn σ H q => by
  obtain ⟨Nc, Fb, H0, δ, S, p⟩ := q
  exact p σ H S
theorem q_seq (h1 : PS X st (rdS G W O O1 L f1)) (h2 : PSs X rest (rdS G W O1 O2 L f2)) : PSs X (st :: rest) (rdS G W O O2 L fun δ => (f1 δ).bind fun o => match o with | .nx δ2 => f2 δ2 | o => .ok o) := pss_imp (pss_cons h1 h2) fun Dn σ H q => by
  obtain ⟨Nc, Fb, H0, δ, S, p⟩ := q
  refine ⟨Nc, Fb, H0, δ, S, ?_⟩
  dsimp only at p
  cases e : f1 δ with
  | ok o =>
    rw [e] at p
    cases o with
    | nx δ2 => exact fun σ' H' S' => ⟨Nc, Fb, H0, δ2, S', p⟩
    | rt d => exact p
    | bk δ2 => exact p
    | ct δ2 => exact p
  | exc c => rw [e] at p; exact p
  | bad => rw [e] at p; exact p
theorem q_pass : PS X (.Pass pos) (rdS G W O O L fun δ => .ok (.nx δ)) := ps_imp ps_pass fun Dn σ H q => by
  obtain ⟨Nc, Fb, H0, δ, S, p⟩ := q
  exact p σ H S
theorem q_brk (h : ∀ i ∈ L, i ∈ O) : PS X (.Break pos) (rdS G W O O' L fun δ => .ok (.bk δ)) := ps_imp ps_break fun Dn σ H q => by
  obtain ⟨Nc, Fb, H0, δ, S, p⟩ := q
  exact p σ H (S.weak h)
theorem q_cont (h : ∀ i ∈ L, i ∈ O) : PS X (.Continue pos) (rdS G W O O' L fun δ => .ok (.ct δ)) := ps_imp ps_continue fun Dn σ H q => by
  obtain ⟨Nc, Fb, H0, δ, S, p⟩ := q
  exact p σ H (S.weak h)
theorem q_weak (h : PS X st (rdS G W O O1 L f)) (hw : ∀ i ∈ O2, i ∈ O1) : PS X st (rdS G W O O2 L f) := ps_imp h fun Dn σ H q => by
  obtain ⟨Nc, Fb, H0, δ, S, p⟩ := q
  refine ⟨Nc, Fb, H0, δ, S, ?_⟩
  cases e : f δ with
  | ok o =>
    rw [e] at p
    cases o with
    | nx δ2 => exact fun σ' H' S' => p σ' H' (S'.weak hw)
    | rt d => exact p
    | bk δ2 => exact p
    | ct δ2 => exact p
  | exc c => rw [e] at p; exact p
  | bad => rw [e] at p; exact p
theorem qs_weak (h : PSs X rest (rdS G W O O1 L f)) (hw : ∀ i ∈ O2, i ∈ O1) : PSs X rest (rdS G W O O2 L f) := pss_imp h fun Dn σ H q => by
  obtain ⟨Nc, Fb, H0, δ, S, p⟩ := q
  refine ⟨Nc, Fb, H0, δ, S, ?_⟩
  cases e : f δ with
  | ok o =>
    rw [e] at p
    cases o with
    | nx δ2 => exact fun σ' H' S' => p σ' H' (S'.weak hw)
    | rt d => exact p
    | bk δ2 => exact p
    | ct δ2 => exact p
  | exc c => rw [e] at p; exact p
  | bad => rw [e] at p; exact p
/-! ### assignments -/
theorem q_set {i : Nat} (h : PS X st (tAsg (rdE G W true A fe) (gName i))) (h1 : ∀ j ∈ O1, j ∈ O) (hA : ∀ j ∈ A, j ∉ O1) (hi : i ∉ O1) : PS X st (rdS G W O O1 L fun δ => (fe δ).bind fun d => .ok (.nx (δ.set i (some d)))) := ps_imp h fun Dn σ H q => by
  obtain ⟨Nc, Fb, H0, δ, S, p⟩ := q
  have S1 := S.weak h1
  refine ⟨_, δ, S1.at hA, (Post.fin S1 p).imp fun d H1 x1 t1 q v rv => ?_⟩
  obtain ⟨S2, p2⟩ := q
  exact p2 _ _ (S2.set hi rv)
theorem q_fresh {i : Nat} (h : PS X st (tAsg (rdN G W A fe) (gName i))) (h1 : ∀ j ∈ O1, j ∈ O) (hA : ∀ j ∈ A, j ∉ O1) (hi : i ∉ O1) : PS X st (rdS G W O (i :: O1) L fun δ => (fe δ).bind fun d => .ok (.nx (δ.set i (some d)))) := ps_imp h fun Dn σ H q => by
  obtain ⟨Nc, Fb, H0, δ, S, p⟩ := q
  have S1 := S.weak h1
  refine ⟨_, δ, S1.at hA, (Post.fin S1 p).imp fun d H1 x1 t1 q pp xs ds e hp hp' hl r => ?_⟩
  obtain ⟨S2, p2⟩ := q
  subst e
  exact p2 _ _ (S1.setOwn hi x1 t1 hp hp' hl r)
/-- a target that is a tuple of names, the value any tuple -/
theorem q_sets {is : List Nat} (h : PS X st (tAsg (rdE G W true A fe) (gT G.K (.tup is)))) (h1 : ∀ j ∈ O1, j ∈ O) (hA : ∀ j ∈ A, j ∉ O1) (hi : ∀ i ∈ is, i ∉ O1) : PS X st (rdS G W O O1 L fun δ => (fe δ).bind fun d => (bindTg (.tup is) d δ).bind fun δ' => .ok (.nx δ')) := ps_imp h fun Dn σ H q => by
  obtain ⟨Nc, Fb, H0, δ, S, p⟩ := q
  have S1 := S.weak h1
  refine ⟨_, δ, S1.at hA, (Post.fin S1 p).imp fun d H1 x1 t1 q v rv => ?_⟩
  obtain ⟨S2, p2⟩ := q
  cases d with
  | tuple ds =>
    obtain ⟨pa, xs, rfl, k1, k2, k3, _⟩ := (Repc.of (show Rep _ _ _ v (.tuple ds) from rv)).tuple
    unfold bindTg at p2
    dsimp only at p2
    cases es : setAll is ds δ with
    | none => rw [es] at p2; exact p2.elim
    | some δ2 =>
      rw [es] at p2
      obtain ⟨S3, hl⟩ := S2.setAll es k3 hi
      exact ⟨pa, xs, rfl, k1, hl, gNames_of is xs σ H1 _ hl (p2 _ _ S3)⟩
  | _ => exact p2.elim
theorem q_pars {is : List Nat} {ta : TS} (h : PS X st ta) (hta : ∀ Dn σ H, (rdA G W true A fr σ H fun vs H1 => TabsOk G.T H1 ∧ vs.length = is.length ∧ ∀ H2, Ext H1 H2 → TabsOk G.T H2 → Dn.nx (setV is vs σ) H2) → ta Dn σ H) (h1 : ∀ j ∈ O1, j ∈ O) (hA : ∀ j ∈ A, j ∉ O1) (hi : ∀ i ∈ is, i ∉ O1) :
    PS X st (rdS G W O O1 L fun δ => (fr δ).bind fun ds => match setAll is ds δ with | some δ' => .ok (.nx δ') | none => .bad) := ps_imp h fun Dn σ H q => by
  obtain ⟨Nc, Fb, H0, δ, S, p⟩ := q
  have S1 := S.weak h1
  refine hta Dn σ H ⟨_, δ, S1.at hA, (Post.fin S1 p).imp fun ds H1 x1 t1 q vs rvs => ?_⟩
  obtain ⟨S2, p2⟩ := q
  cases es : setAll is ds δ with
  | none => rw [es] at p2; exact p2.elim
  | some δ2 =>
    rw [es] at p2
    exact ⟨t1, (S2.setAll es (repsF_t rvs) hi).2, fun H2 x2 t2 => p2 _ _ ((S2.ext x2 t2).setAll es ((repsF_t rvs).ext x2) hi).1⟩
theorem q_drop (h : PE X e (rdE G W false A fe)) (h1 : ∀ j ∈ O1, j ∈ O) (hA : ∀ j ∈ A, j ∉ O1) (hs : swapsWith e none pos.line X.env = pure false) : PS X (.Expr e pos) (rdS G W O O1 L fun δ => (fe δ).bind fun _ => .ok (.nx δ)) := ps_imp (ps_expr h hs) fun Dn σ H q => by
  obtain ⟨Nc, Fb, H0, δ, S, p⟩ := q
  have S1 := S.weak h1
  refine ⟨_, δ, S1.at hA, (Post.fin S1 p).imp fun d H1 x1 t1 q v rv => ?_⟩
  exact q.2 _ _ q.1
theorem q_ret (h : PE X e (rdE G W true A fe)) (h1 : ∀ j ∈ O1, j ∈ O) (hA : ∀ j ∈ A, j ∉ O1) : PS X (.Return (some e) pos) (rdS G W O O' L fun δ => (fe δ).bind fun d => .ok (.rt d)) := ps_imp (ps_ret h) fun Dn σ H q => by
  obtain ⟨Nc, Fb, H0, δ, S, p⟩ := q
  have S1 := S.weak h1
  refine ⟨_, δ, S1.at hA, (Post.fin S1 p).imp fun d H1 x1 t1 q v rv => ?_⟩
  exact q.2 v H1 q.1.kept t1 (Rep.mono (fun a n => n.1) rv)
theorem q_retN : PS X (.Return none pos) (rdS G W O O' L fun δ => .ok (.rt .none)) := ps_imp ps_retN fun Dn σ H q => by
  obtain ⟨Nc, Fb, H0, δ, S, p⟩ := q
  exact p .non H S.kept S.tabs .non
theorem q_raise {c : Nat} (hc : X.calm = true) (tk : Takes X W) (he : PMk X e (fun _ H Q => Q (G.cls c) none H)) : PS X (.Raise (some e) none pos) (rdS G W O O' L fun _ => .exc c) := ps_imp (ps_raise hc tk he) fun Dn σ H q => by
  obtain ⟨Nc, Fb, H0, δ, S, p⟩ := q
  exact p σ H S.kept S.tabs
theorem q_ite {fc : Env → R D} {a b : List Stmt} (hc : PT X e (rdT G W A fun δ => (fc δ).bind truth)) (ha : PSs X a (rdS G W O1 O2 L f1)) (hb : PSs X b (rdS G W O1 O2 L f2)) (h1 : ∀ j ∈ O1, j ∈ O) (hA : ∀ j ∈ A, j ∉ O1) :
    PS X (.If e a b pos) (rdS G W O O2 L fun δ => (fc δ).bind fun x => (truth x).bind fun k => if k = true then f1 δ else f2 δ) := ps_imp (ps_if hc ha hb) fun Dn σ H q => by
  obtain ⟨Nc, Fb, H0, δ, S, p⟩ := q
  have S1 := S.weak h1
  have e0 : ((fc δ).bind fun x => (truth x).bind fun k => if k = true then f1 δ else f2 δ) = ((fc δ).bind truth).bind fun k => if k = true then f1 δ else f2 δ := by cases fc δ <;> rfl
  dsimp only at p
  rw [e0] at p
  refine ⟨_, δ, S1.at hA, (Post.fin S1 p).imp fun k H1 x1 t1 q => ?_⟩
  cases k with
  | true => exact ⟨Nc, Fb, H0, δ, q.1, q.2⟩
  | false => exact ⟨Nc, Fb, H0, δ, q.1, q.2⟩
/-! ### x op= e -/
def rAug (op : Operator) : R2 := fun x y H Q => ∃ (N : Addr → Prop) (K : PySem.W.Frag) (a b d : D), Repc K N H x a ∧ Repc K N H y b ∧ augop op a b = .ok d ∧ ∀ v, (∀ K N H, Rep K N H v d) → Q v H
theorem aug_D (op : Operator) : OpR X (inplaceOp op) (rAug op) := by
  intro pins s σ H x y v u Q I rx ry h
  obtain ⟨N, K, a, b, d, ra, rb, e, q⟩ := h
  unfold augop at e
  split at e
  · obtain rfl := ok_inj e
    exact iop_add pins s σ H x y v u Q I rx ry ⟨_, _, ra.int, rb.int, q _ fun _ _ _ => .int _⟩
  · obtain rfl := ok_inj e
    exact iop_sub pins s σ H x y v u Q I rx ry ⟨_, _, ra.int, rb.int, q _ fun _ _ _ => .int _⟩
  · obtain ⟨h, rfl⟩ := if_ok e
    refine iop_mul pins s σ H x y v u Q I rx ry ⟨_, _, ra.int, rb.int, ?_, q _ fun _ _ _ => .int _⟩
    rcases Bool.or_eq_true_iff.mp h with h | h
    · exact .inl (smallI_of h)
    · exact .inr (smallI_of h)
  · obtain ⟨h, rfl⟩ := if_ok e
    simp only [Bool.and_eq_true, decide_eq_true_eq] at h
    exact iop_shl pins s σ H x y v u Q I rx ry ⟨_, _, ra.int, rb.int, ⟨h.1.1, h.1.2, h.2⟩, q _ fun _ _ _ => .int _⟩
  · obtain ⟨h, rfl⟩ := if_ok e
    exact iop_shr pins s σ H x y v u Q I rx ry ⟨_, _, ra.int, rb.int, of_decide_eq_true h, q _ fun _ _ _ => .int _⟩
  · obtain rfl := ok_inj e
    exact iop_and pins s σ H x y v u Q I rx ry ⟨_, _, ra.int, rb.int, q _ fun _ _ _ => .int _⟩
  · obtain rfl := ok_inj e
    exact iop_or pins s σ H x y v u Q I rx ry ⟨_, _, ra.int, rb.int, q _ fun _ _ _ => .int _⟩
  · obtain rfl := ok_inj e
    exact iop_xor pins s σ H x y v u Q I rx ry ⟨_, _, ra.int, rb.int, q _ fun _ _ _ => .int _⟩
  · obtain ⟨h, rfl⟩ := if_okP e
    exact iop_add_str pins s σ H x y v u Q I rx ry ⟨_, _, ra.str, rb.str, by rw [← LN_line]; exact h, q _ fun _ _ _ => .str _⟩
  · cases e
theorem quiet_aug (op : Operator) (a b : D) : Quiet (augop op a b) := by
  unfold augop
  split
  all_goals first | exact quiet_ok | exact quiet_bad | exact quiet_ite quiet_ok quiet_bad
theorem q_aug {i : Nat} {op : Operator} {st : Stmt} (h : PS X st (tAug i (rdE G W false A fe) (rAug op))) (h1 : ∀ j ∈ O1, j ∈ O) (hA : ∀ j ∈ A, j ∉ O1) (hi : i ∉ O1) :
    PS X st (rdS G W O O1 L fun δ => (envGet δ i).bind fun x => (fe δ).bind fun y => (augop op x y).bind fun z => .ok (.nx (δ.set i (some z)))) := ps_imp h fun Dn σ H q => by
  obtain ⟨Nc, Fb, H0, δ, S, p⟩ := q
  have S1 := S.weak h1
  dsimp only at p
  unfold envGet at p
  split at p
  · rename_i d hd
    obtain ⟨v, k1, k2⟩ := S1.env i d hi hd
    refine ⟨v, k1, _, δ, S1.at hA, Fin.imp (Post.fin (fe := fe δ) (k := fun y => (augop op d y).bind fun z => .ok (.nx (δ.set i (some z)))) S1 p) fun y H1 x1 t1 q w rw_ => ?_⟩
    obtain ⟨S2, p2⟩ := q
    cases ez : augop op d y with
    | ok z =>
      rw [ez] at p2
      exact ⟨_, _, d, y, z, (Repc.of k2).ext x1, rw_, ez, fun v' hv' => p2 _ _ (S2.set hi (hv' _ _ _))⟩
    | exc c => exact absurd ez (quiet_aug op d y c)
    | bad => rw [ez] at p2; exact p2.elim
  · exact p.elim
/-! ### x.append(e) -/
theorem q_app {i : Nat} {x : Str} {px ap cp : Pos} (hK : X.K = G.K) (hN : X.N[i]? = some x) (hv : Vis X.env.scope x) (hd : (x == ("__debug__" : Str)) = false) (hcd : (x == ("__classdict__" : Str)) = false) (h : PA X [e] (rdA G W true A fr)) (hns : notStar e = true)
    (hfr : ∀ δ, fr δ = (fe δ).bind fun y => .ok [y]) (hline : (ap.endLine == cp.line) = true) (h1 : ∀ j ∈ O1, j ∈ O) (hA : ∀ j ∈ A, j ∉ O1) (hi : i ∈ O1) :
    PS X (.Expr (.Call (.Attribute (.Name x px) "append" ap) [e] [] cp) pos) (rdS G W O O1 L fun δ => (envGet δ i).bind fun x => (fe δ).bind fun y => match x with
      | .list xs => if xs.length < LN then .ok (.nx (δ.set i (some (.list (xs ++ [y]))))) else .bad
      | _ => .bad) := by
  have he : PE X (.Call (.Attribute (.Name x px) "append" ap) [e] [] cp) (tBM X.K "list" rAppend (tVar i) (rdA G W true A fr)) :=
    pe_bm PySem.F.plainAttrs_list PySem.F.slot_list_append PySem.F.type_list_append mt_append (pe_var hN hv hd hcd) h (base_ok rfl) (by rw [star_cons hns]; rfl) hline (star_cons hns) rfl
  refine ps_imp (ps_expr he rfl) fun Dn σ H q => ?_
  obtain ⟨Nc, Fb, H0, δ, S, p⟩ := q
  have S1 := S.weak h1
  dsimp only at p
  unfold envGet at p
  split at p
  · rename_i d hd'
    obtain ⟨a, xs, ds, k1, rfl, k3, k4, k5, k6, k7⟩ := S1.own i d hi hd'
    refine ⟨.ref a, k1, .inl ⟨rfl, xs, .inl (.inl k5)⟩, _, δ, S1.at hA, ?_⟩
    have e0 : ((fe δ).bind fun y => if ds.length < LN then R.ok (Out.nx (δ.set i (some (.list (ds ++ [y]))))) else .bad) = (fr δ).bind fun ys => match ys with | [y] => if ds.length < LN then R.ok (Out.nx (δ.set i (some (.list (ds ++ [y]))))) else .bad | _ => .bad := by
      rw [hfr]; cases fe δ <;> rfl
    have p : Post G W Nc Fb H0 O1 L ((fe δ).bind fun y => if ds.length < LN then R.ok (Out.nx (δ.set i (some (.list (ds ++ [y]))))) else .bad) Dn := p
    rw [e0] at p
    refine Fin.imp (Post.fin (fe := fr δ) S1 p) fun ys H1 x1 t1 q vs rvs => ?_
    obtain ⟨S2, p2⟩ := q
    match ys, p2, rvs with
    | [y], p2, rvs =>
      obtain ⟨v, rfl, rv⟩ := repsF1 rvs
      dsimp only at p2
      by_cases hl : ds.length < LN
      · rw [if_pos hl] at p2
        have hxl : xs.length = ds.length := k7.length
        have k5' : H1 a = some (.lst xs) := x1.keep a _ k5 fun _ z => nomatch z
        refine ⟨a, xs, v, rfl, rfl, k5', by rw [sizeLine_eq]; have : ds.length < 16777216 := hl; omega, ?_⟩
        have rv' : Rep G.K (NN Nc O1 σ δ) H1 v y := rv
        exact p2 _ _ (S2.write hi hd' k1 (by rw [List.length_append]; show xs.length + 1 ≤ 16777216; have : ds.length < 16777216 := hl; omega) ((k7.ext x1).app (.cons rv' .nil)))
      · rw [if_neg hl] at p2; exact p2.elim
    | [], p2, _ => exact p2.elim
    | _ :: _ :: _, p2, _ => exact p2.elim
  · exact p.elim
end
end EV

set_option Elab.async false
set_option linter.all false
set_option maxRecDepth 100000
set_option maxHeartbeats 2000000
/-! EvS: loops. -/
namespace EV
open PySem PySem.Spec PyProof.Rows L2

section
variable {X : Cx} {G : Wd} {W : WX} {O O' O1 O2 L L0 : List Nat} {st : Stmt} {body : List Stmt} {fb : Env → R Out} {fi : Env → R (List D)} {fc : Env → R D} {e iter tgx : Expr} {A : List Nat} {pos : Pos} {tg : Tg}
theorem loop_ok {tg : Tg} {b : Env → R Out} {d : D} {r : List D} {δ : Env} : loopL tg b (d :: r) δ = (bindTg tg d δ).bind fun δ' => (b δ').bind fun o => match o with
    | .nx δ2 => loopL tg b r δ2
    | .ct δ2 => loopL tg b r δ2
    | .bk δ2 => .ok (.nx δ2)
    | .rt d => .ok (.rt d) := rfl
/-- the target gets its value, in the state -/
theorem SR.bind {Nc Fb : Addr → Prop} {H0 H : Hp} {σ : L2.St} {δ δ' : Env} {d : D} {x : V} (S : SR G Nc Fb H0 O σ H δ) (e : bindTg tg d δ = .ok δ') (r : Rep G.K (NN Nc O σ δ) H x d) (hi : ∀ i ∈ tg.slots, i ∉ O) {Q : L2.St → Hp → Prop}
    (k : ∀ σ2, SR G Nc Fb H0 O σ2 H δ' → Q σ2 H) : gT G.K tg x σ H Q := by
  cases tg with
  | one i =>
    cases e
    exact k _ (S.set (hi i (by simp [Tg.slots])) r)
  | tup is =>
    unfold bindTg at e
    cases d with
    | tuple ds =>
      dsimp only at e
      cases es : EV.setAll is ds δ with
      | none => rw [es] at e; cases e
      | some δ2 =>
        rw [es] at e
        cases e
        obtain ⟨p, xs, rfl, h1, h2, h3, _⟩ := (Repc.of r).tuple
        obtain ⟨S2, hl⟩ := S.setAll es h3 hi
        exact ⟨p, xs, rfl, h1, hl, gNames_of is xs σ H Q hl (k _ S2)⟩
    | _ => cases e
theorem q_loop (hp : PassesOwn (model X.prog X.w) X.A X.env X.xe) (hc : X.calm = true) (hi : PI X tgx iter (rdI G W true A fi)) (hg : PG X tgx (gT G.K tg)) (hb : PSs X body (rdS G W O1 O2 O1 fb)) (hs : notSet iter = true)
    (h1 : ∀ j ∈ O1, j ∈ O) (hA : ∀ j ∈ A, j ∉ O1) (ht : ∀ j ∈ tg.slots, j ∉ O1) (h2 : ∀ j ∈ O1, j ∈ O2) :
    PS X (.For tgx iter body [] pos) (rdS G W O O1 L fun δ => (fi δ).bind fun ds => loopL tg fb ds δ) := ps_imp (ps_for hp hc hi hg hb (fold_ok hs)) fun Dn σ H q => by
  obtain ⟨Nc, Fb, H0, δ, S, p⟩ := q
  have S1 := S.weak h1
  refine ⟨_, δ, S1.at hA, (Post.fin S1 p).imp fun ds Ha x1 t1 q J is keep Gd w hG hk hkN hpr hl => ?_⟩
  obtain ⟨S2, p2⟩ := q
  have hpl : is.length = ds.length := paired_len hpr
  have Si := S2.inner (kp := NN Nc O1 σ δ) fun b hb => hb
  -- the invariant
  let Fk : Addr → Prop := fun b => Ha b ≠ none ∧ (Fb b ∨ NN Nc O1 σ δ b)
  refine for_it w (fun i σ' H' => ∃ δ', SR G Nc Fk Ha O1 σ' H' δ' ∧ Post G W Nc Fb H0 O1 L (loopL tg fb (ds.drop i) δ') Dn) ⟨δ, Si, by simpa using p2⟩ (fun i σ' H' hi' q => ?_) (fun i x σ' Hb Hc hi' q y => ?_) (fun σ' H' q => ?_)
  · obtain ⟨δ', S', _⟩ := q
    refine hk Ha H' (fun b hb u hu e => S'.keep b u ⟨by rw [e]; simp, .inr (hkN rfl b hb)⟩ e hu) hG
  · obtain ⟨δ', S', p'⟩ := q
    have hid : i < ds.length := by omega
    rw [List.drop_eq_getElem_cons hid, loop_ok] at p'
    obtain ⟨it, hit, hy⟩ := y
    obtain ⟨it', hit', rit⟩ := pair_get hpr (List.getElem?_eq_getElem hid)
    rw [hit] at hit'
    cases hit'
    -- the item, at this turn's heap
    have mv : ∀ a u, NN Nc O1 σ δ a → isData u = true → Rd Ha a u → Rd Hb a u ∧ NN Nc O1 σ' δ' a := fun a u n hu r => by
      have hka : Fk a := ⟨fun z => rd_ne r z rfl, .inr n⟩
      refine ⟨?_, n.1, fun j e hj he z => ?_⟩
      · rcases r with r | ⟨o, r⟩
        · exact .inl (S'.keep a u hka r (isData_tbl hu))
        · exact .inr ⟨o, S'.keep a _ hka r fun _ z => nomatch z⟩
      · obtain ⟨a', xs, ds', k1, _, _, k4, _⟩ := S'.own j e hj he
        rw [z] at k1
        cases k1
        exact k4 hka
    have rit2 : ItemR G.K (NN Nc O1 σ' δ') Hb it ds[i] := rit.to mv
    obtain ⟨rx, x3, t3⟩ := rit2.yield hy S'.new S'.tabs
    have S3 := S'.ext x3 t3
    cases eb : bindTg tg ds[i] δ' with
    | bad => rw [eb] at p'; exact p'.elim
    | exc c => exact absurd eb (quiet_bindTg _ _ _ c)
    | ok δ2 =>
      rw [eb] at p'
      refine S3.bind eb rx ht fun σ2 S4 => ?_
      refine ⟨Nc, Fk, Ha, δ2, S4, ?_⟩
      dsimp only [R.bind] at p'
      cases ef : fb δ2 with
      | bad => rw [ef] at p'; exact p'.elim
      | exc c => rw [ef] at p'; exact fun σ5 H5 k5 t5 => p' σ5 H5 ⟨fun b o hb e n => k5.1 b o ⟨fun z => S2.fb b hb (S2.dom b z), .inl hb⟩ (S2.keep b o hb e n) n, fun b e => S2.dom b (k5.2 b e)⟩ t5
      | ok o =>
        rw [ef] at p'
        cases o with
        | nx δ3 => exact fun σ5 H5 S5 => ⟨δ3, S5.weak h2, p'⟩
        | ct δ3 => exact fun σ5 H5 S5 => ⟨δ3, S5, p'⟩
        | bk δ3 => exact fun σ5 H5 S5 => p' σ5 H5 (S2.outer S5)
        | rt dd => exact fun v H5 k5 t5 rv => p' v H5 ⟨fun b o hb e n => k5.1 b o ⟨fun z => S2.fb b hb (S2.dom b z), .inl hb⟩ (S2.keep b o hb e n) n, fun b e => S2.dom b (k5.2 b e)⟩ t5 rv
  · obtain ⟨δ', S', p'⟩ := q
    rw [hpl, List.drop_length] at p'
    exact p' σ' H' (S2.outer S')
theorem whileL_ok {c : Env → R Bool} {b : Env → R Out} {n : Nat} {δ : Env} : whileL c b (n + 1) δ = (c δ).bind fun k => if k = true then (b δ).bind fun o => match o with
    | .nx δ2 => whileL c b n δ2
    | .ct δ2 => whileL c b n δ2
    | .bk δ2 => .ok (.nx δ2)
    | .rt d => .ok (.rt d)
    else .ok (.nx δ) := rfl
theorem q_while {nw : Nat} (hp : PassesOwn (model X.prog X.w) X.A X.env X.xe) (hc : PT X e (rdT G W A fun δ => (fc δ).bind truth)) (hb : PSs X body (rdS G W O1 O2 O1 fb))
    (h1 : ∀ j ∈ O1, j ∈ O) (hA : ∀ j ∈ A, j ∉ O1) (h2 : ∀ j ∈ O1, j ∈ O2) :
    PS X (.While e body [] pos) (rdS G W O O1 L fun δ => whileL (fun δ' => (fc δ').bind truth) fb nw δ) := ps_imp (ps_while hp hc hb) fun Dn σ H q => by
  obtain ⟨Nc, Fb, H0, δ, S, p⟩ := q
  have S1 := S.weak h1
  refine ⟨fun m σ' H' => ∃ δ', SR G Nc Fb H0 O1 σ' H' δ' ∧ Post G W Nc Fb H0 O1 L (whileL (fun δ' => (fc δ').bind truth) fb m δ') Dn, ⟨nw, δ, S1, p⟩, fun m σ' H' q => ?_⟩
  obtain ⟨δ', S', p'⟩ := q
  cases m with
  | zero => exact p'.elim
  | succ m =>
    rw [whileL_ok] at p'
    refine ⟨_, δ', S'.at hA, (Post.fin S' p').imp fun k H1 x1 t1 q => ?_⟩
    obtain ⟨S2, p2⟩ := q
    cases k with
    | false => exact p2 _ _ S2
    | true =>
      refine ⟨fun σ5 H5 => ∃ δ5, SR G Nc Fb H0 O1 σ5 H5 δ5 ∧ Post G W Nc Fb H0 O1 L (whileL (fun δ' => (fc δ').bind truth) fb m δ5) Dn, fun σ5 H5 q => ⟨m, Nat.lt_succ_self m, q⟩, Nc, Fb, H0, δ', S2, ?_⟩
      simp only [if_true] at p2
      cases ef : fb δ' with
      | bad => rw [ef] at p2; exact p2.elim
      | exc c => rw [ef] at p2; exact p2
      | ok o =>
        rw [ef] at p2
        cases o with
        | nx δ3 => exact fun σ5 H5 S5 => ⟨δ3, S5.weak h2, p2⟩
        | ct δ3 => exact fun σ5 H5 S5 => ⟨δ3, S5, p2⟩
        | bk δ3 => exact fun σ5 H5 S5 => p2 σ5 H5 S5
        | rt dd => exact p2
/-! ### x[k] = e -/
theorem place_set {n : Nat} {i : Int} {j : Nat} (e : place? n i = some j) : ixN n i = some j := place_at e
theorem asub_ok {o ke : Expr} {pos : Pos} {env : PySem.Env} (h : notSlice ke = true) (v : Value) : assign (.Subscript o ke pos) env v = (do
      let ov ← holding [v] (eval o env)
      let iv ← holding [v, ov] (eval ke env)
      standAt pos
      holding [v, ov, iv] (setItem ov iv v)
      release [v, ov, iv] []) := by
  cases ke <;> first | rfl | cases h
theorem q_put {i : Nat} {x : Str} {px tpos : Pos} {ke : Expr} {fe fk : Env → R D} {A2 : List Nat} (hN : X.N[i]? = some x) (hv : Vis X.env.scope x) (hd : (x == ("__debug__" : Str)) = false) (hcd : (x == ("__classdict__" : Str)) = false)
    (he : PE X e (rdE G W true A fe)) (hk : PE X ke (rdE G W false A2 fk)) (hs : swapsWithSole [.Subscript (.Name x px) ke tpos] e pos.line X.env = pure false) (hw : swappedStores [.Subscript (.Name x px) ke tpos] e X.env = pure none) (hns : notSlice ke = true)
    (h1 : ∀ j ∈ O1, j ∈ O) (hA : ∀ j ∈ A, j ∉ O1) (hA2 : ∀ j ∈ A2, j ∉ O1) (hi : i ∈ O1) :
    PS X (.Assign [.Subscript (.Name x px) ke tpos] e pos) (rdS G W O O1 L fun δ => (fe δ).bind fun y => (envGet δ i).bind fun x => (fk δ).bind fun j => (putAt x j y).bind fun z => .ok (.nx (δ.set i (some z)))) := by
  refine ps_imp (ps_asg he (pg_sub (pe_var hN hv hd hcd) hk set_list fun v => asub_ok hns v) hs hw) fun Dn σ H q => ?_
  obtain ⟨Nc, Fb, H0, δ, S, p⟩ := q
  have S1 := S.weak h1
  refine ⟨_, δ, S1.at hA, (Post.fin S1 p).imp fun y H1 x1 t1 q v rv => ?_⟩
  obtain ⟨S2, p2⟩ := q
  unfold envGet at p2
  split at p2
  · rename_i d hd'
    obtain ⟨a, xs, ds, k1, rfl, k3, k4, k5, k6, k7⟩ := S2.own i d hi hd'
    refine ⟨.ref a, k1, _, δ, S2.at hA2, Fin.imp (Post.fin (fe := fk δ) (k := fun j => (putAt (.list ds) j y).bind fun z => .ok (.nx (δ.set i (some z)))) S2 p2) fun j H2 x2 t2 q w rw_ => ?_⟩
    obtain ⟨S3, p3⟩ := q
    cases j with
    | int ji =>
      unfold putAt at p3
      dsimp only at p3
      cases ep : place? ds.length ji with
      | none => rw [ep] at p3; exact p3.elim
      | some jn =>
        rw [ep] at p3
        have hxl : xs.length = ds.length := k7.length
        have rv' : Rep G.K (NN Nc O1 σ δ) H1 v y := rv
        refine ⟨a, xs, ji, jn, rfl, RepF.c rw_ |>.int, x2.keep a _ k5 (fun _ z => nomatch z), by rw [hxl]; exact place_at ep, p3 _ _ (S3.write hi hd' k1 (by rw [List.length_set]; exact k6) (Reps.set (rv'.ext x2) jn (k7.ext x2)))⟩
    | _ => exact p3.elim
  · exact p2.elim
end
end EV

set_option Elab.async false
set_option linter.all false
set_option maxRecDepth 100000
set_option maxHeartbeats 4000000
/-! EvT: fresh lists; assignments; the checker of statements. -/
namespace EV
open PySem PySem.Spec PyProof.Rows L2

def notCompE : Expr → Bool
  | .ListComp _ _ _ _ => false
  | .SetComp _ _ _ _ => false
  | .DictComp _ _ _ _ _ => false
  | _ => true
theorem swaps_no {e : Expr} {t : Option Expr} {l : Nat} {env : PySem.Env} (h : notCompE e = true) : swapsWith e t l env = pure false := by
  cases e <;> first | rfl | cases h
theorem swaps_tup {e : Expr} {ts : List Expr} {k : Nat} {p : Pos} {l : Nat} {env : PySem.Env} : swapsWithSole [.Tuple ts k p] e l env = pure false := by
  cases e <;> rfl
theorem swaps_sub {e o i : Expr} {p : Pos} {l : Nat} {env : PySem.Env} : swapsWithSole [.Subscript o i p] e l env = pure false := by
  cases e <;> rfl
theorem stores_sub {e o i : Expr} {p : Pos} {env : PySem.Env} : swappedStores [.Subscript o i p] e env = pure none := by
  cases e <;> rfl
def notTupE : Expr → Bool
  | .Tuple _ _ _ => false
  | _ => true
theorem stores_tup {e : Expr} {ts : List Expr} {k : Nat} {p : Pos} {env : PySem.Env} (h : notTupE e = true) : swappedStores [.Tuple ts k p] e env = pure none := by
  cases e <;> first | rfl | cases h
def isFresh : Tm → Bool
  | .lst _ => true
  | .rep _ _ => true
  | .comp _ _ _ _ _ => true
  | .comp2 _ _ _ _ _ _ _ _ _ => true
  | _ => false
theorem okName_get {X : Cx} {G : Wd} {W : WX} {Z : Sem0} {c : Cn} (F : Fit X G W Z c) {i : Nat} {x : Str} (h : okName c i x = true) : X.N[i]? = some x ∧ Loc X.env.scope x ∧ (X.fn x = true ∨ X.env.scope.names.lookup x = some .local) := by
  unfold okName at h
  simp only [Bool.and_eq_true, decide_eq_true_eq, Bool.or_eq_true] at h
  refine ⟨by rw [F.N]; exact h.1, ?_, ?_⟩
  · rw [F.sc]; exact h.2.elim .inl fun z => .inr z.1
  · rw [F.sc]; exact h.2.elim .inr fun z => .inl (F.fn x z.2)
section
variable {X : Cx} {G : Wd} {W : WX} {Z : Sem0} {c : Cn}
theorem n_lst {es : List Expr} {p : Pos} {A : List Nat} {fr : Env → R (List D)} (hr : PA X es (rdA G W true A fr)) (hl : ∀ δ ds, fr δ = .ok ds → ds.length ≤ 1000) : PE X (.List es p) (rdN G W A fun δ => (fr δ).bind fun ds => .ok (.list ds)) := by
  refine pe_imp (pe_lst hr) fun σ H Q h => ?_
  obtain ⟨N, δ, at_, q⟩ := h
  refine ⟨N, δ, at_, Fin.bindE q fun ds H1 e x1 t1 q1 vs rvs => ?_⟩
  have hz : vs.length ≤ 1000 := by rw [paired_len rvs]; exact hl δ ds e
  refine ⟨by rw [sizeLine_eq]; omega, fun p hp => ?_⟩
  exact q1 _ (Ext.new hp) (t1.new hp) p vs ds rfl (x1.dom p hp) upd_same (by show _ ≤ 16777216; omega) ((repsF_t rvs).to (toBut (Ext.new hp) hp))
theorem n_rep {es : List Expr} {p lpos : Pos} {e2 : Expr} {A A2 : List Nat} {fr : Env → R (List D)} {f2 : Env → R D} (hr : PA X es (rdA G W true A fr)) (hl : ∀ δ ds, fr δ = .ok ds → ds.length ≤ 1000) (h2 : PE X e2 (rdE G W false A2 f2)) :
    PE X (.BinOp (.List es lpos) .Mult e2 p) (rdN G W (A ++ A2) fun δ => (fr δ).bind fun ds => (f2 δ).bind fun y => repL ds y) := by
  refine pe_imp (pe_op op_rep (pe_lst hr) h2) fun σ H Q q => ?_
  obtain ⟨N, δ, at_, q⟩ := q
  refine ⟨N, δ, at_.l, Fin.bindE q fun ds H1 ed x1 t1 q1 vs rvs => ?_⟩
  have hz : vs.length ≤ 1000 := by rw [paired_len rvs]; exact hl δ ds ed
  refine ⟨by rw [sizeLine_eq]; omega, fun p hp => ?_⟩
  have q2 := q1.ext (Ext.new hp (o := .lst vs))
  refine ⟨N, δ, (at_.r.ext x1 t1).ext (Ext.new hp) (t1.new hp), q2.bind fun y H2 x2 t2 q3 w rw_ => ?_⟩
  unfold repL at q3
  split at q3
  · rename_i k
    by_cases hc : (decide (-9223372036854775808 ≤ k) && decide (k < 9223372036854775808) && decide (ds.length * k.toNat ≤ LN)) = true
    · rw [if_pos hc] at q3
      simp only [Bool.and_eq_true, decide_eq_true_eq] at hc
      have hvl : vs.length = ds.length := paired_len rvs
      refine ⟨p, k, vs, rfl, rw_.c.int, x2.keep p _ upd_same (fun _ z => by cases z), by omega, by omega, by rw [hvl, ← LN_line]; exact hc.2, fun p' hp' => ?_⟩
      refine q3 _ (Ext.new hp') (t2.new hp') p' _ _ rfl (x1.dom p' ((Ext.new hp).dom p' (x2.dom p' hp'))) upd_same ?_ ((((((repsF_t rvs).ext (Ext.new hp)).ext x2)).rep _).to (toBut (Ext.new hp') hp'))
      rw [PyProof.Rows.lm_len_rep_flat, hvl, Nat.mul_comm]
      exact hc.2
    · rw [if_neg hc] at q3; exact q3.elim
  · exact q3.elim
theorem swaps_comp {elt : Expr} {gs : List Comprehension} {scope : Scope} {p py : Pos} {y : Str} {l : Nat} {env : PySem.Env} :
    swapsWith (.ListComp elt gs scope p) (some (.Name y py)) l env = pure (env.blockKind == .function && env.kindOf y == some .local && py.line == p.line && !(scope.names.any fun (n, k) => n == y && (k == .local || k == .cell))) := rfl
theorem set_fresh {t : Tm} {e : Expr} {i : Nat} {y : Str} {py pos : Pos} (F : Fit X G W Z c) (h : chE c t e = true) (hf : isFresh t = true) (ho : okName c i y = true) : PS X (.Assign [.Name y py] e pos) (tAsg (rdN G W (esc true t) (ev Z t)) (gName i)) := by
  obtain ⟨o1, o2, o3⟩ := okName_get F ho
  have hnd : X.N.Nodup := by rw [F.N]; exact F.nd
  cases t with
  | lst a =>
    cases e with
    | List es p =>
      obtain ⟨h1, h2⟩ := and3 (show (decide (es.length ≤ 1000) && ch a c (.A es)) = true from h)
      have s := (snd_all a).2.1 X W c es F h2
      exact ps_set hnd o1 o2 (n_lst (s.pa true) fun δ ds e => by rw [s.len δ ds e]; exact of_decide_eq_true h1) rfl o3
    | _ => exact ff h
  | rep a b =>
    cases e with
    | BinOp e1 op e2 p =>
      cases e1 with
      | List es lp =>
        cases op with
        | Mult =>
          obtain ⟨h, h3⟩ := and3 (show (decide (es.length ≤ 1000) && ch a c (.A es) && ch b c (.E e2)) = true from h)
          obtain ⟨h1, h2⟩ := and3 h
          have s := (snd_all a).2.1 X W c es F h2
          exact ps_set hnd o1 o2 (n_rep (s.pa true) (fun δ ds e => by rw [s.len δ ds e]; exact of_decide_eq_true h1) (((snd_all b).1 X W c e2 F h3).pe false)) rfl o3
        | _ => exact ff h
      | _ => exact ff h
    | _ => exact ff h
  | comp tg k it t e0 =>
    cases e with
    | ListComp elt gs scope p =>
      replace h : (match gen1 gs with
        | some (tgx, iter, ifs) => ch it c (.I k tgx iter) && chBlk c.N c.sc scope tg.slots && chT (blkC c scope) tg tgx && notSet iter &&
          (match ifs with | [] => isYes t | [x] => ch t (blkC c scope) (.E x) | _ => false) && ch e0 (blkC c scope) (.E elt)
        | none => false) = true := h
      cases hg : gen1 gs with
      | none => rw [hg] at h; cases h
      | some q =>
        obtain ⟨tgx, iter, ifs⟩ := q
        rw [hg] at h
        obtain rfl := gen1_eq hg
        obtain ⟨h, h6⟩ := and3 h
        obtain ⟨h, h5⟩ := and3 h
        obtain ⟨h, h4⟩ := and3 h
        obtain ⟨h, h3⟩ := and3 h
        obtain ⟨h1, h2⟩ := and3 h
        have sI := (iter_ok F (snd_all it).2.1 (snd_all it).2.2 h1) false
        have blk : BlkOk X.N X.env.scope scope (ownOf c.N tg.slots) := by rw [F.N, F.sc]; exact blk_ok h2
        have w : ∀ {σ H Q}, rdN G W (esc true (.comp tg k it t e0)) (ev Z (.comp tg k it t e0)) σ H Q → tLc (rdI G W false (escI false k it) fun δ => (evs Z it δ).bind fun as => iterate k as) (gT G.K tg) (rdT G W0 (esc false t) fun δ => (ev Z t δ).bind truth) (rdE G W0 true (esc true e0) (ev Z e0)) ((ownOf c.N tg.slots).map (·.2)) σ H Q := by
          intro σ H Q q
          refine comp_w (Ai := fun fl => escI fl k it) F.good (fun i hi => by rw [ownOf_snd] at hi; exact hi) (fun i hi => by rw [ownOf_snd]; exact hi) ?_
          obtain ⟨N, δ, at_, q⟩ := q
          refine ⟨N, δ, at_.sub fun i hi => ?_, q.eq ?_⟩
          · rcases List.mem_append.mp hi with z | z
            · refine List.mem_append_left _ ?_
              unfold escI at z
              split at z <;> exact z
            · exact List.mem_append_right _ z
          · show ((evs Z it δ).bind fun as => (iterate k as).bind fun ds => _) = _
            dsimp only [fComp]
            cases evs Z it δ <;> rfl
        have hg' := fun (s : Shared) (H : Hp) (C : Addr) (cl : List (Str × Addr)) (fp : List Addr) => chT_pg (F.blk s H scope C cl fp) h3
        have ht' := fun (s : Shared) (H : Hp) (C : Addr) (cl : List (Str × Addr)) (fp : List Addr) => tests_ok h5 fun x hx => ((snd_all t).1 _ _ _ _ (F.blk s H scope C cl fp) hx).pt
        have he' := fun (s : Shared) (H : Hp) (C : Addr) (cl : List (Str × Addr)) (fp : List Addr) => ((snd_all e0).1 _ _ _ _ (F.blk s H scope C cl fp) h6).pe true
        cases hsw : (X.env.blockKind == .function && X.env.kindOf y == some .local && py.line == p.line && !(scope.names.any fun (n, k) => n == y && (k == .local || k == .cell))) with
        | false => exact ps_imp (ps_set hnd o1 o2 (pe_lc F.calm hnd sI blk hg' ht' he' (fold_ok h4)) (by rw [swaps_comp, hsw]) o3) fun Dn σ H q => w q
        | true =>
          have hyl : X.env.scope.names.lookup y = some .local := by
            simp only [Bool.and_eq_true] at hsw
            exact eq_of_beq hsw.1.1.2
          exact ps_imp (ps_setLc F.calm hnd o1 hyl (by rw [swaps_comp, hsw]) sI blk hg' ht' he' (fold_ok h4)) fun Dn σ H q => w q
    | _ => exact ff h
  | comp2 tg k it t tg1 k1 it1 t1 e0 =>
    cases e with
    | ListComp elt gs scope p =>
      replace h : (match gen2 gs with
        | some ((tgx, iter, ifs), (tgx1, iter1, ifs1)) => ch it c (.I k tgx iter) && chBlk c.N c.sc scope (tg.slots ++ tg1.slots) && chT (blkC c scope) tg tgx && chT (blkC c scope) tg1 tgx1 && notSet iter && notSet iter1 &&
          (match ifs with | [] => isYes t | [x] => ch t (blkC c scope) (.E x) | _ => false) && ch it1 (blkC c scope) (.I k1 tgx1 iter1) &&
          (match ifs1 with | [] => isYes t1 | [x] => ch t1 (blkC c scope) (.E x) | _ => false) && ch e0 (blkC c scope) (.E elt)
        | none => false) = true := h
      cases hg : gen2 gs with
      | none => rw [hg] at h; cases h
      | some q =>
        obtain ⟨⟨tgx, iter, ifs⟩, ⟨tgx1, iter1, ifs1⟩⟩ := q
        rw [hg] at h
        obtain rfl := gen2_eq hg
        obtain ⟨h, h10⟩ := and3 h
        obtain ⟨h, h9⟩ := and3 h
        obtain ⟨h, h8⟩ := and3 h
        obtain ⟨h, h7⟩ := and3 h
        obtain ⟨h, h6⟩ := and3 h
        obtain ⟨h, h5⟩ := and3 h
        obtain ⟨h, h4⟩ := and3 h
        obtain ⟨h, h3⟩ := and3 h
        obtain ⟨h1, h2⟩ := and3 h
        have sI := (iter_ok F (snd_all it).2.1 (snd_all it).2.2 h1) false
        have blk : BlkOk X.N X.env.scope scope (ownOf c.N (tg.slots ++ tg1.slots)) := by rw [F.N, F.sc]; exact blk_ok h2
        have hv3 : ∀ i ∈ tg1.slots, i ∈ (ownOf c.N (tg.slots ++ tg1.slots)).map (·.2) := fun i hi => by rw [ownOf_snd]; exact List.mem_append_right _ hi
        have w : ∀ {σ H Q}, rdN G W (esc true (.comp2 tg k it t tg1 k1 it1 t1 e0)) (ev Z (.comp2 tg k it t tg1 k1 it1 t1 e0)) σ H Q → tLc2 (rdI G W false (escI false k it) fun δ => (evs Z it δ).bind fun as => iterate k as) (gT G.K tg) (rdT G W0 (esc false t) fun δ => (ev Z t δ).bind truth)
            (rdI G W0 true (escI true k1 it1) fun δ => (evs Z it1 δ).bind fun as => iterate k1 as) (gT G.K tg1) (rdT G W0 (esc false t1) fun δ => (ev Z t1 δ).bind truth) (rdE G W0 true (esc true e0) (ev Z e0)) ((ownOf c.N (tg.slots ++ tg1.slots)).map (·.2)) tg1.slots σ H Q := by
          intro σ H Q q
          refine comp2_w (Ai := fun fl => escI fl k it) F.good (fun i hi => by rw [ownOf_snd] at hi; exact List.mem_append.mp hi) (fun i hi => by rw [ownOf_snd]; exact List.mem_append_left _ hi) hv3 ?_
          obtain ⟨N, δ, at_, q⟩ := q
          refine ⟨N, δ, at_.sub fun i hi => ?_, q.eq ?_⟩
          · rcases List.mem_append.mp hi with z | z
            · refine List.mem_append_left _ ?_
              unfold escI at z
              split at z <;> exact z
            · exact List.mem_append_right _ z
          · show ((evs Z it δ).bind fun as => (iterate k as).bind fun ds => _) = _
            dsimp only [fComp2]
            cases evs Z it δ <;> rfl
        have hg' := fun (s : Shared) (H : Hp) (C : Addr) (cl : List (Str × Addr)) (fp : List Addr) => chT_pg (F.blk s H scope C cl fp) h3
        have hg1' := fun (s : Shared) (H : Hp) (C : Addr) (cl : List (Str × Addr)) (fp : List Addr) => chT_pg (F.blk s H scope C cl fp) h4
        have ht' := fun (s : Shared) (H : Hp) (C : Addr) (cl : List (Str × Addr)) (fp : List Addr) => tests_ok h7 fun x hx => ((snd_all t).1 _ _ _ _ (F.blk s H scope C cl fp) hx).pt
        have ht1' := fun (s : Shared) (H : Hp) (C : Addr) (cl : List (Str × Addr)) (fp : List Addr) => tests_ok h9 fun x hx => ((snd_all t1).1 _ _ _ _ (F.blk s H scope C cl fp) hx).pt
        have he' := fun (s : Shared) (H : Hp) (C : Addr) (cl : List (Str × Addr)) (fp : List Addr) => ((snd_all e0).1 _ _ _ _ (F.blk s H scope C cl fp) h10).pe true
        have hi1' := fun (s : Shared) (H : Hp) (C : Addr) (cl : List (Str × Addr)) (fp : List Addr) => iter_ok (F.blk s H scope C cl fp) (snd_all it1).2.1 (snd_all it1).2.2 h8 true
        cases hsw : (X.env.blockKind == .function && X.env.kindOf y == some .local && py.line == p.line && !(scope.names.any fun (n, k) => n == y && (k == .local || k == .cell))) with
        | false => exact ps_imp (ps_set hnd o1 o2 (pe_lc2 F.calm hnd sI blk hv3 hg' ht' hi1' hg1' ht1' he' (fold_ok h5) (fun env x => fold_ok h6 x)) (by rw [swaps_comp, hsw]) o3) fun Dn σ H q => w q
        | true =>
          have hyl : X.env.scope.names.lookup y = some .local := by
            simp only [Bool.and_eq_true] at hsw
            exact eq_of_beq hsw.1.1.2
          exact ps_imp (ps_setLc2 F.calm hnd o1 hyl (by rw [swaps_comp, hsw]) sI blk hv3 hg' ht' hi1' hg1' ht1' he' (fold_ok h5) (fun env x => fold_ok h6 x)) fun Dn σ H q => w q
    | _ => exact ff h
  | _ => exact ff hf
end
end EV

set_option Elab.async false
set_option linter.all false
set_option maxRecDepth 100000
set_option maxHeartbeats 4000000
/-! EvU: the checker of statements, and its soundness. -/
namespace EV
open PySem PySem.Spec PyProof.Rows L2

def swP (bk : ScopeKind) (kd : Str → Option NameKind) (ts vs : List Expr) : Option (Option (List Str)) :=
  if (!(ts.length == 2 || ts.length == 3) || vs.length != ts.length || bk != .function) = true then some none
  else if (vs.any fun | .Starred .. => true | _ => false) = true then some none
  else
    let line := (ts.head?.map (·.pos.line)).getD 0
    let names := ts.filterMap fun
      | .Name id pos => if (kd id == some .local && pos.line == line) = true then some id else none
      | _ => none
    if (names.length != ts.length || names.eraseDups.length != names.length) = true then some none
    else if vs.all (foldedForSure 8) = true then some none
    else if vs.all (constantsAlone 8) = true then none
    else some (some names)
theorem swP_ok {ts vs : List Expr} {env : PySem.Env} {kt k2 : Nat} {pt p2 : Pos} {r : Option (List Str)} (h : swP env.blockKind env.kindOf ts vs = some r) : swappedStores [.Tuple ts kt pt] (.Tuple vs k2 p2) env = pure r := by
  unfold swP at h
  unfold swappedStores
  dsimp only at h ⊢
  split at h
  · rename_i c1
    cases h
    exact if_pos c1
  · rename_i c1
    refine (if_neg c1).trans ?_
    split at h
    · rename_i c2
      cases h
      exact if_pos c2
    · rename_i c2
      refine (if_neg c2).trans ?_
      split at h
      · rename_i c3
        cases h
        exact if_pos c3
      · rename_i c3
        refine (if_neg c3).trans ?_
        split at h
        · rename_i c4
          cases h
          exact if_pos c4
        · rename_i c4
          refine (if_neg c4).trans ?_
          split at h
          · cases h
          · rename_i c5
            cases h
            exact if_neg c5

structure FitS (X : Cx) (G : Wd) (W : WX) (Z : Sem0) (c : Cn) (xs : List Str) : Prop where
  fit : Fit X G W Z c
  po : PassesOwn (model X.prog X.w) X.A X.env X.xe
  rz : ∀ (k : Nat) (x : Str), xs[k]? = some x → Gl X x → ∀ (m : Str) (j : Nat) (p p2 pos : Pos), PMk X (.Call (.Name x p) [.Constant (.str m) j p2] [] pos) (fun _ H Q => Q (G.cls k) none H)
/-- the slots that a statement sets or lets go -/
def kills : Sm → List Nat
  | .nil => []
  | .seq a b => kills a ++ kills b
  | .pass => []
  | .set i e => i :: esc true e
  | .fresh i e => i :: esc true e
  | .sets is e => is ++ esc true e
  | .pars is e => is ++ esc true e
  | .drop e => esc false e
  | .aug i _ e => i :: esc false e
  | .app _ e => esc true e
  | .put _ k e => esc true e ++ esc false k
  | .ite c a b => esc false c ++ (kills a ++ kills b)
  | .loop tg k it b => tg.slots ++ (escI true k it ++ kills b)
  | .while c b => esc false c ++ kills b
  | .ret _ => []
  | .brk => []
  | .cont => []
  | .raise _ => []
inductive Ms where
  | S (st : Stmt)
  | SS (sts : List Stmt)
def sub (a b : List Nat) : Bool := a.all fun i => b.contains i
theorem sub_ok {a b : List Nat} (h : sub a b = true) : ∀ i ∈ a, i ∈ b := fun i hi => by
  have := List.all_eq_true.mp h i hi
  simpa using this
theorem minus_in {A S : List Nat} {i : Nat} (h : i ∈ minus A S) : i ∈ A ∧ i ∉ S := by
  unfold minus at h
  rw [List.mem_filter] at h
  exact ⟨h.1, by simpa using h.2⟩
def inter (a b : List Nat) : List Nat := a.filter fun i => b.contains i
theorem inter_in {a b : List Nat} {i : Nat} (h : i ∈ inter a b) : i ∈ a ∧ i ∈ b := by
  unfold inter at h
  rw [List.mem_filter] at h
  exact ⟨h.1, by simpa using h.2⟩
def namesOf (ts : List Expr) : List Str := ts.filterMap fun | .Name x _ => some x | _ => none
def parOk (c : Cn) (is : List Nat) (ts vs : List Expr) : Bool :=
  decide (swP .function (fun x => c.sc.names.lookup x) ts vs = some none) ||
  (decide (swP .function (fun x => c.sc.names.lookup x) ts vs = some (some (namesOf ts))) && (namesOf ts).all (fun x => decide (c.sc.names.lookup x = some .local)) && decide is.Nodup && decide (vs.length = is.length) && (decide (is.length = 2) || decide (is.length = 3)))
def rzx (v w : Option Expr) : Option Str := match v, w with
  | some (.Call (.Name x _) [.Constant (.str _) _ _] [] _), none => some x
  | _, _ => none
theorem rzx_eq {v w : Option Expr} {x : Str} (h : rzx v w = some x) : ∃ px m j p2 pp, v = some (.Call (.Name x px) [.Constant (.str m) j p2] [] pp) ∧ w = none := by
  unfold rzx at h
  split at h
  · cases h
    exact ⟨_, _, _, _, _, rfl, rfl⟩
  · cases h
def bnd (g : Bool) (o : Option (List Nat)) : Option (List Nat) := if g = true then o else none
def chS (U : List Nat) (xs : List Str) : Sm → Cn → List Nat → List Nat → Ms → Option (List Nat)
  | .nil, _, _, O, m => match m with
    | .SS [] => some O
    | _ => none
  | .seq a b, c, L, O, m => match m with
    | .SS (st :: rest) => match chS U xs a c L O (.S st) with
      | some O1 => chS U xs b c L O1 (.SS rest)
      | none => none
    | _ => none
  | .pass, _, _, O, m => match m with
    | .S (.Pass _) => some O
    | _ => none
  | .set i e, c, _, O, m => match m with
    | .S (.Assign [.Name x _] v _) => bnd (okName c i x && chE c e v && notCompE v) (some (minus O (i :: esc true e)))
    | _ => none
  | .fresh i e, c, _, O, m => match m with
    | .S (.Assign [.Name x _] v _) => bnd (okName c i x && chE c e v && isFresh e) (some (i :: minus O (i :: esc true e)))
    | _ => none
  | .sets is e, c, _, O, m => match m with
    | .S (.Assign [.Tuple ts _ _] v _) => bnd (chNames c is ts && chE c e v && notTupE v) (some (minus O (is ++ esc true e)))
    | _ => none
  | .pars is e, c, _, O, m => match m with
    | .S (.Assign [.Tuple ts _ _] (.Tuple vs _ _) _) => bnd (chNames c is ts && chA c e vs && parOk c is ts vs && decide (c.sc.kind = .function) && decide (is.length ≤ 1000)) (some (minus O (is ++ esc true e)))
    | _ => none
  | .drop e, c, _, O, m => match m with
    | .S (.Expr v _) => bnd (chE c e v && notCompE v) (some (minus O (esc false e)))
    | _ => none
  | .aug i op e, c, _, O, m => match m with
    | .S (.AugAssign (.Name x _) op' v _) => bnd (decide (op = op') && okName c i x && chE c e v) (some (minus O (i :: esc false e)))
    | _ => none
  | .app i e, c, _, O, m => match m with
    | .S (.Expr (.Call (.Attribute (.Name x _) at_ ap) (v :: vs) [] cp) _) => bnd (vs.isEmpty && decide (at_ = ("append" : Str)) && decide (c.N[i]? = some x) && vis c.sc x && !(x == ("__debug__" : Str)) && !(x == ("__classdict__" : Str)) && chE c e v && notStar v && (ap.endLine == cp.line) && (minus O (esc true e)).contains i) (some (minus O (esc true e)))
    | _ => none
  | .put i k e, c, _, O, m => match m with
    | .S (.Assign [.Subscript (.Name x _) ke _] v _) => bnd (decide (c.N[i]? = some x) && vis c.sc x && !(x == ("__debug__" : Str)) && !(x == ("__classdict__" : Str)) && chE c e v && chE c k ke && notSlice ke && (minus O (esc true e ++ esc false k)).contains i) (some (minus O (esc true e ++ esc false k)))
    | _ => none
  | .ite t a b, c, L, O, m => match m with
    | .S (.If cnd p q _) => match chS U xs a c L (minus O (esc false t)) (.SS p), chS U xs b c L (minus O (esc false t)) (.SS q) with
      | some Oa, some Ob => bnd (chE c t cnd) (some (inter Oa Ob))
      | _, _ => none
    | _ => none
  | .loop tg k it b, c, _, O, m => match m with
    | .S (.For tgx iter body [] _) => match chS U xs b c (minus O (tg.slots ++ (escI true k it ++ kills b))) (minus O (tg.slots ++ (escI true k it ++ kills b))) (.SS body) with
      | some O2 => bnd (chI c k it tgx iter && chT c tg tgx && notSet iter && sub (minus O (tg.slots ++ (escI true k it ++ kills b))) O2) (some (minus O (tg.slots ++ (escI true k it ++ kills b))))
      | none => none
    | _ => none
  | .while t b, c, _, O, m => match m with
    | .S (.While cnd body [] _) => match chS U xs b c (minus O (esc false t ++ kills b)) (minus O (esc false t ++ kills b)) (.SS body) with
      | some O2 => bnd (chE c t cnd && sub (minus O (esc false t ++ kills b)) O2) (some (minus O (esc false t ++ kills b)))
      | none => none
    | _ => none
  | .ret e, c, _, O, m => match m with
    | .S (.Return (some v) _) => bnd (chE c e v) (some U)
    | .S (.Return none _) => match e with
      | .con .none => some U
      | _ => none
    | _ => none
  | .brk, _, L, O, m => match m with
    | .S (.Break _) => bnd (sub L O) (some U)
    | _ => none
  | .cont, _, L, O, m => match m with
    | .S (.Continue _) => bnd (sub L O) (some U)
    | _ => none
  | .raise k, c, _, O, m => match m with
    | .S (.Raise v w _) => match rzx v w with
      | some x => bnd (decide (xs[k]? = some x) && glo c.sc x) (some U)
      | none => none
    | _ => none
theorem bnd_some {g : Bool} {o : Option (List Nat)} {r : List Nat} (h : bnd g o = some r) : g = true ∧ o = some r := by
  unfold bnd at h
  split at h
  · exact ⟨by assumption, h⟩
  · cases h
section
variable {X : Cx} {G : Wd} {W : WX} {Z : Sem0} {c : Cn}
theorem chNames_some : ∀ {is : List Nat} {ts : List Expr}, chNames c is ts = true → ts.length = is.length ∧ ∀ (n i : Nat), is[n]? = some i → ∃ x p, ts[n]? = some (.Name x p) ∧ c.N[i]? = some x
  | [], [], _ => ⟨rfl, fun n i e => by simp at e⟩
  | [], _ :: _, h => by simp [chNames] at h
  | i :: is, [], h => by simp [chNames] at h
  | i :: is, e :: es, h => by
    cases e with
    | Name x p =>
      unfold chNames at h
      rw [Bool.and_eq_true] at h
      obtain ⟨h1, h2⟩ := chNames_some h.2
      refine ⟨congrArg (· + 1) h1, fun n j e => ?_⟩
      cases n with
      | zero =>
        simp at e
        subst e
        have h3 := h.1
        unfold okName at h3
        simp only [Bool.and_eq_true, decide_eq_true_eq] at h3
        exact ⟨x, p, rfl, h3.1⟩
      | succ n => exact h2 n j (by simpa using e)
    | _ => simp [chNames] at h
theorem pars_ok (F : Fit X G W Z c) {is : List Nat} {ts vs : List Expr} {kt k2 : Nat} {pt p2 pos : Pos} {A : List Nat} {fr : Env → R (List D)} {O O1 L : List Nat} (h1 : chNames c is ts = true) (hr : PA X vs (rdA G W true A fr)) (hp : parOk c is ts vs = true) (hk : c.sc.kind = .function) (hz : is.length ≤ 1000)
    (hO : ∀ j ∈ O1, j ∈ O) (hA : ∀ j ∈ A, j ∉ O1) (hi : ∀ i ∈ is, i ∉ O1) :
    PS X (.Assign [.Tuple ts kt pt] (.Tuple vs k2 p2) pos) (rdS G W O O1 L fun δ => (fr δ).bind fun ds => match setAll is ds δ with | some δ' => .ok (.nx δ') | none => .bad) := by
  have hbk : X.env.blockKind = .function := by unfold Env.blockKind; rw [F.sc, hk]; rfl
  have hkd : X.env.kindOf = fun x => c.sc.names.lookup x := by funext x; show X.env.scope.names.lookup x = _; rw [F.sc]
  have hlk : ∀ x, c.sc.names.lookup x = some .local → X.env.scope.names.lookup x = some .local := fun x h => by rw [F.sc]; exact h
  have hnd : X.N.Nodup := by rw [F.N]; exact F.nd
  unfold parOk at hp
  rcases Bool.or_eq_true_iff.mp hp with hp | hp
  · have hw := swP_ok (kt := kt) (k2 := k2) (pt := pt) (p2 := p2) (env := X.env) (ts := ts) (vs := vs) (r := none) (by rw [hbk, hkd]; exact of_decide_eq_true hp)
    refine q_pars (ta := tAsg (tTup (rdA G W true A fr)) (gT G.K (.tup is))) (ps_asg (pe_tup hr) (chT_pg F (tg := .tup is) (e := .Tuple ts kt pt) h1) swaps_tup hw rfl) (fun Dn σ H q => ?_) hO hA hi
    obtain ⟨N, δ, at_, q⟩ := q
    refine ⟨N, δ, at_, q.imp fun ds H1 x1 t1 q1 xs rxs => ?_⟩
    obtain ⟨t1, hl, q2⟩ := q1 xs rxs
    refine ⟨by rw [sizeLine_eq]; omega, fun p hp => ⟨p, xs, rfl, .inl (.inl upd_same), hl, gNames_of is xs σ _ _ hl (q2 _ (Ext.new hp) (t1.new hp))⟩⟩
  · simp only [Bool.and_eq_true, decide_eq_true_eq, Bool.or_eq_true, List.all_eq_true] at hp
    obtain ⟨⟨⟨⟨hw, hloc⟩, hnd2⟩, hvl⟩, hlen⟩ := hp
    have hw := swP_ok (kt := kt) (k2 := k2) (pt := pt) (p2 := p2) (env := X.env) (ts := ts) (vs := vs) (r := some (namesOf ts)) (by rw [hbk, hkd]; exact hw)
    obtain ⟨tl, tg⟩ := chNames_some h1
    rcases hlen with hlen | hlen
    · match is, hlen, ts, tl, vs, hvl with
      | [i, j], _, [e1, e2], _, [a, b], _ =>
        obtain ⟨x, px, z1, z2⟩ := tg 0 i rfl
        obtain ⟨y, py, z3, z4⟩ := tg 1 j rfl
        simp at z1 z3
        subst z1 z3
        refine q_pars (ta := tPar i j (rdA G W true A fr)) (ps_par F.calm hnd (by rw [F.N]; exact z2) (by rw [F.N]; exact z4) (fun z => by subst z; simp at hnd2) (hlk _ (hloc x (by simp [namesOf]))) (hlk _ (hloc y (by simp [namesOf]))) hr hw swaps_tup) (fun Dn σ H q => ?_) hO hA hi
        obtain ⟨N, δ, at_, q⟩ := q
        refine ⟨N, δ, at_, q.imp fun ds H1 x1 t1 q1 xs rxs => ?_⟩
        obtain ⟨t1, hl, q2⟩ := q1 xs rxs
        match xs, hl, q2 with
        | [v, w], _, q2 => exact ⟨v, w, rfl, q2 H1 (Ext.refl _) t1⟩
    · match is, hlen, ts, tl, vs, hvl with
      | [i, j, k], _, [e1, e2, e3], _, [a, b, d], _ =>
        obtain ⟨x, px, z1, z2⟩ := tg 0 i rfl
        obtain ⟨y, py, z3, z4⟩ := tg 1 j rfl
        obtain ⟨z, pz, z5, z6⟩ := tg 2 k rfl
        simp at z1 z3 z5
        subst z1 z3 z5
        refine q_pars (ta := tPar3 i j k (rdA G W true A fr)) (ps_par3 F.calm hnd (by rw [F.N]; exact z2) (by rw [F.N]; exact z4) (by rw [F.N]; exact z6) (fun z => by subst z; simp at hnd2) (fun z => by subst z; simp at hnd2) (fun z => by subst z; simp at hnd2)
          (hlk _ (hloc x (by simp [namesOf]))) (hlk _ (hloc y (by simp [namesOf]))) (hlk _ (hloc z (by simp [namesOf]))) hr hw swaps_tup) (fun Dn σ H q => ?_) hO hA hi
        obtain ⟨N, δ, at_, q⟩ := q
        refine ⟨N, δ, at_, q.imp fun ds H1 x1 t1 q1 xs rxs => ?_⟩
        obtain ⟨t1, hl, q2⟩ := q1 xs rxs
        match xs, hl, q2 with
        | [u, v, w], _, q2 => exact ⟨u, v, w, rfl, q2 H1 (Ext.refl _) t1⟩

/-! ### soundness -/
def S1 (G : Wd) (Z : Sem0) (U : List Nat) (xs : List Str) (s : Sm) : Prop := ∀ (X : Cx) (W : WX) (c : Cn) (L O O' : List Nat) (st : Stmt), FitS X G W Z c xs → chS U xs s c L O (.S st) = some O' → PS X st (rdS G W O O' L (ex Z s))
def S2 (G : Wd) (Z : Sem0) (U : List Nat) (xs : List Str) (s : Sm) : Prop := ∀ (X : Cx) (W : WX) (c : Cn) (L O O' : List Nat) (sts : List Stmt), FitS X G W Z c xs → chS U xs s c L O (.SS sts) = some O' → PSs X sts (rdS G W O O' L (ex Z s))
theorem nn {P : Prop} {r : List Nat} (h : (none : Option (List Nat)) = some r) : P := by cases h
theorem dis1 {O A : List Nat} {i : Nat} : ∀ j ∈ minus O (i :: A), j ∈ O := fun j h => (minus_in h).1
theorem sndS (U : List Nat) (xs : List Str) : ∀ s : Sm, S1 G Z U xs s ∧ S2 G Z U xs s := by
  have noS : ∀ {s : Sm}, (∀ c L O st, chS U xs s c L O (.S st) = none) → S1 G Z U xs s := fun hh X W c L O O' st _ h => by rw [hh] at h; cases h
  have noSS : ∀ {s : Sm}, (∀ c L O st, chS U xs s c L O (.SS st) = none) → S2 G Z U xs s := fun hh X W c L O O' st _ h => by rw [hh] at h; cases h
  have mi : ∀ {O A : List Nat}, ∀ j ∈ minus O A, j ∈ O := fun j h => (minus_in h).1
  have mo : ∀ {O A B : List Nat}, (∀ j ∈ A, j ∈ B) → ∀ j ∈ A, j ∉ minus O B := fun hs j hj h => (minus_in h).2 (hs j hj)
  intro s
  induction s with
  | nil =>
    refine ⟨noS fun _ _ _ _ => rfl, fun X W c L O O' sts F h => ?_⟩
    cases sts with
    | nil => cases h; exact q_nil
    | cons _ _ => exact nn h
  | seq a b iha ihb =>
    refine ⟨noS fun _ _ _ _ => rfl, fun X W c L O O' sts F h => ?_⟩
    cases sts with
    | nil => exact nn h
    | cons st rest =>
      replace h : (match chS U xs a c L O (.S st) with | some O1 => chS U xs b c L O1 (.SS rest) | none => none) = some O' := h
      cases ha : chS U xs a c L O (.S st) with
      | none => rw [ha] at h; cases h
      | some O1 =>
        rw [ha] at h
        exact q_seq (iha.1 X W c L O O1 st F ha) (ihb.2 X W c L O1 O' rest F h)
  | pass =>
    refine ⟨fun X W c L O O' st F h => ?_, noSS fun _ _ _ _ => rfl⟩
    cases st with
    | Pass p => cases h; exact q_pass
    | _ => exact nn h
  | ret e =>
    refine ⟨fun X W c L O O' st F h => ?_, noSS fun _ _ _ _ => rfl⟩
    cases st with
    | Return v p =>
      cases v with
      | some v =>
        obtain ⟨h1, h2⟩ := bnd_some (show bnd (chE c e v) (some U) = some O' from h)
        exact q_ret (O1 := minus O (esc true e)) (((snd_all e).1 X W c v F.fit h1).pe true) mi (mo fun j h => h)
      | none =>
        have he : e = .con .none := by
          cases e with
          | con d =>
            cases d with
            | none => rfl
            | _ => exact nn h
          | _ => exact nn h
        subst he
        exact q_retN
    | _ => exact nn h
  | brk =>
    refine ⟨fun X W c L O O' st F h => ?_, noSS fun _ _ _ _ => rfl⟩
    cases st with
    | Break p =>
      obtain ⟨h1, h2⟩ := bnd_some (show bnd (sub L O) (some U) = some O' from h)
      exact q_brk (sub_ok h1)
    | _ => exact nn h
  | cont =>
    refine ⟨fun X W c L O O' st F h => ?_, noSS fun _ _ _ _ => rfl⟩
    cases st with
    | Continue p =>
      obtain ⟨h1, h2⟩ := bnd_some (show bnd (sub L O) (some U) = some O' from h)
      exact q_cont (sub_ok h1)
    | _ => exact nn h
  | set i e =>
    refine ⟨fun X W c L O O' st F h => ?_, noSS fun _ _ _ _ => rfl⟩
    cases st with
    | Assign ts v p =>
      cases ts with
      | nil => exact nn h
      | cons t ts =>
        cases ts with
        | cons _ _ => cases t <;> exact nn h
        | nil =>
          cases t with
          | Name x px =>
            obtain ⟨h1, h2⟩ := bnd_some (show bnd (okName c i x && chE c e v && notCompE v) (some (minus O (i :: esc true e))) = some O' from h)
            cases h2
            obtain ⟨h1, h3⟩ := and3 h1
            obtain ⟨h1, h2⟩ := and3 h1
            obtain ⟨o1, o2, o3⟩ := okName_get F.fit h1
            exact q_set (ps_set (by rw [F.fit.N]; exact F.fit.nd) o1 o2 (((snd_all e).1 X W c v F.fit h2).pe true) (swaps_no h3) o3) mi (mo fun j h => List.mem_cons_of_mem _ h) (fun z => (minus_in z).2 List.mem_cons_self)
          | _ => exact nn h
    | _ => exact nn h
  | fresh i e =>
    refine ⟨fun X W c L O O' st F h => ?_, noSS fun _ _ _ _ => rfl⟩
    cases st with
    | Assign ts v p =>
      cases ts with
      | nil => exact nn h
      | cons t ts =>
        cases ts with
        | cons _ _ => cases t <;> exact nn h
        | nil =>
          cases t with
          | Name x px =>
            obtain ⟨h1, h2⟩ := bnd_some (show bnd (okName c i x && chE c e v && isFresh e) (some (i :: minus O (i :: esc true e))) = some O' from h)
            cases h2
            obtain ⟨h1, h3⟩ := and3 h1
            obtain ⟨h1, h2⟩ := and3 h1
            exact q_fresh (set_fresh F.fit h2 h3 h1) mi (mo fun j h => List.mem_cons_of_mem _ h) (fun z => (minus_in z).2 List.mem_cons_self)
          | _ => exact nn h
    | _ => exact nn h
  | sets is e =>
    refine ⟨fun X W c L O O' st F h => ?_, noSS fun _ _ _ _ => rfl⟩
    cases st with
    | Assign ts v p =>
      cases ts with
      | nil => exact nn h
      | cons t ts =>
        cases ts with
        | cons _ _ => cases t <;> exact nn h
        | nil =>
          cases t with
          | Tuple es k px =>
            obtain ⟨h1, h2⟩ := bnd_some (show bnd (chNames c is es && chE c e v && notTupE v) (some (minus O (is ++ esc true e))) = some O' from h)
            cases h2
            obtain ⟨h1, h3⟩ := and3 h1
            obtain ⟨h1, h2⟩ := and3 h1
            exact q_sets (ps_asg (((snd_all e).1 X W c v F.fit h2).pe true) (chT_pg F.fit (tg := .tup is) (e := .Tuple es k px) h1) swaps_tup (stores_tup h3) rfl) mi (mo fun j h => List.mem_append_right _ h) (fun i hi z => (minus_in z).2 (List.mem_append_left _ hi))
          | _ => exact nn h
    | _ => exact nn h
  | pars is e =>
    refine ⟨fun X W c L O O' st F h => ?_, noSS fun _ _ _ _ => rfl⟩
    cases st with
    | Assign ts v p =>
      cases ts with
      | nil => exact nn h
      | cons t ts =>
        cases ts with
        | cons _ _ => cases t <;> cases v <;> exact nn h
        | nil =>
          cases t with
          | Tuple es k px =>
            cases v with
            | Tuple vs k2 p2 =>
              obtain ⟨h1, h2⟩ := bnd_some (show bnd (chNames c is es && chA c e vs && parOk c is es vs && decide (c.sc.kind = .function) && decide (is.length ≤ 1000)) (some (minus O (is ++ esc true e))) = some O' from h)
              cases h2
              obtain ⟨h1, h5⟩ := and3 h1
              obtain ⟨h1, h4⟩ := and3 h1
              obtain ⟨h1, h3⟩ := and3 h1
              obtain ⟨h1, h2⟩ := and3 h1
              exact pars_ok F.fit h1 (((snd_all e).2.1 X W c vs F.fit h2).pa true) h3 (of_decide_eq_true h4) (of_decide_eq_true h5) mi (mo fun j h => List.mem_append_right _ h) (fun i hi z => (minus_in z).2 (List.mem_append_left _ hi))
            | _ => exact nn h
          | _ => cases v <;> exact nn h
    | _ => exact nn h
  | drop e =>
    refine ⟨fun X W c L O O' st F h => ?_, noSS fun _ _ _ _ => rfl⟩
    cases st with
    | Expr v p =>
      obtain ⟨h1, h2⟩ := bnd_some (show bnd (chE c e v && notCompE v) (some (minus O (esc false e))) = some O' from h)
      cases h2
      obtain ⟨h1, h2⟩ := and3 h1
      exact q_drop (((snd_all e).1 X W c v F.fit h1).pe false) mi (mo fun j h => h) (swaps_no h2)
    | _ => exact nn h
  | aug i op e =>
    refine ⟨fun X W c L O O' st F h => ?_, noSS fun _ _ _ _ => rfl⟩
    cases st with
    | AugAssign t op' v p =>
      cases t with
      | Name x px =>
        obtain ⟨h1, h2⟩ := bnd_some (show bnd (decide (op = op') && okName c i x && chE c e v) (some (minus O (i :: esc false e))) = some O' from h)
        cases h2
        obtain ⟨h1, h3⟩ := and3 h1
        obtain ⟨h1, h2⟩ := and3 h1
        obtain rfl := of_decide_eq_true h1
        obtain ⟨o1, o2, o3⟩ := okName_get F.fit h2
        exact q_aug (ps_aug (by rw [F.fit.N]; exact F.fit.nd) o1 o2 (((snd_all e).1 X W c v F.fit h3).pe false) (aug_D op) o3) mi (mo fun j h => List.mem_cons_of_mem _ h) (fun z => (minus_in z).2 List.mem_cons_self)
      | _ => exact nn h
    | _ => exact nn h
  | app i e =>
    refine ⟨fun X W c L O O' st F h => ?_, noSS fun _ _ _ _ => rfl⟩
    cases st with
    | Expr v p =>
      cases v with
      | Call fn vs ks cp =>
        cases fn with
        | Attribute o at_ ap =>
          cases o with
          | Name x px =>
            cases vs with
            | nil => exact nn h
            | cons v vs =>
              cases ks with
              | cons _ _ => exact nn h
              | nil =>
                obtain ⟨h1, h2⟩ := bnd_some (show bnd (vs.isEmpty && decide (at_ = ("append" : Str)) && decide (c.N[i]? = some x) && vis c.sc x && !(x == ("__debug__" : Str)) && !(x == ("__classdict__" : Str)) && chE c e v && notStar v && (ap.endLine == cp.line) && (minus O (esc true e)).contains i) (some (minus O (esc true e))) = some O' from h)
                cases h2
                obtain ⟨h1, g10⟩ := and3 h1
                obtain ⟨h1, g9⟩ := and3 h1
                obtain ⟨h1, g8⟩ := and3 h1
                obtain ⟨h1, g7⟩ := and3 h1
                obtain ⟨h1, g6⟩ := and3 h1
                obtain ⟨h1, g5⟩ := and3 h1
                obtain ⟨h1, g4⟩ := and3 h1
                obtain ⟨h1, g3⟩ := and3 h1
                obtain ⟨g1, g2⟩ := and3 h1
                obtain rfl := of_decide_eq_true g2
                obtain rfl : vs = [] := by cases vs with | nil => rfl | cons _ _ => cases g1
                have pa := (a_cons ((snd_all e).1 X W c v F.fit g7) a_nil (star_cons g8)).pa true
                exact q_app (fe := ev Z e) F.fit.k (by rw [F.fit.N]; exact of_decide_eq_true g3) (by rw [F.fit.sc]; exact vis_ok g4) (by simpa using g5) (by simpa using g6) pa g8 (fun δ => by cases ev Z e δ <;> rfl) g9 mi (fun j hj => by
                  rcases List.mem_append.mp hj with z | z
                  · exact fun q => (minus_in q).2 z
                  · cases z) (by simpa using g10)
          | _ => exact nn h
        | _ => exact nn h
      | _ => exact nn h
    | _ => exact nn h
  | put i k e =>
    refine ⟨fun X W c L O O' st F h => ?_, noSS fun _ _ _ _ => rfl⟩
    cases st with
    | Assign ts v p =>
      cases ts with
      | nil => exact nn h
      | cons t ts =>
        cases ts with
        | cons _ _ =>
          cases t with
          | Subscript o _ _ => cases o <;> exact nn h
          | _ => exact nn h
        | nil =>
          cases t with
          | Subscript o ke tp =>
            cases o with
            | Name x px =>
              obtain ⟨h1, h2⟩ := bnd_some (show bnd (decide (c.N[i]? = some x) && vis c.sc x && !(x == ("__debug__" : Str)) && !(x == ("__classdict__" : Str)) && chE c e v && chE c k ke && notSlice ke && (minus O (esc true e ++ esc false k)).contains i) (some (minus O (esc true e ++ esc false k))) = some O' from h)
              cases h2
              obtain ⟨h1, g8⟩ := and3 h1
              obtain ⟨h1, g7⟩ := and3 h1
              obtain ⟨h1, g6⟩ := and3 h1
              obtain ⟨h1, g5⟩ := and3 h1
              obtain ⟨h1, g4⟩ := and3 h1
              obtain ⟨h1, g3⟩ := and3 h1
              obtain ⟨g1, g2⟩ := and3 h1
              exact q_put (by rw [F.fit.N]; exact of_decide_eq_true g1) (by rw [F.fit.sc]; exact vis_ok g2) (by simpa using g3) (by simpa using g4) (((snd_all e).1 X W c v F.fit g5).pe true) (((snd_all k).1 X W c ke F.fit g6).pe false) swaps_sub stores_sub g7 mi (mo fun j h => List.mem_append_left _ h) (mo fun j h => List.mem_append_right _ h) (by simpa using g8)
            | _ => exact nn h
          | _ => exact nn h
    | _ => exact nn h
  | ite t a b iha ihb =>
    refine ⟨fun X W c L O O' st F h => ?_, noSS fun _ _ _ _ => rfl⟩
    cases st with
    | If cnd p q pos =>
      replace h : (match chS U xs a c L (minus O (esc false t)) (.SS p), chS U xs b c L (minus O (esc false t)) (.SS q) with
        | some Oa, some Ob => bnd (chE c t cnd) (some (inter Oa Ob))
        | _, _ => none) = some O' := h
      cases ha : chS U xs a c L (minus O (esc false t)) (.SS p) with
      | none => rw [ha] at h; cases h
      | some Oa =>
        cases hb : chS U xs b c L (minus O (esc false t)) (.SS q) with
        | none => rw [ha, hb] at h; cases h
        | some Ob =>
          rw [ha, hb] at h
          obtain ⟨h1, h2⟩ := bnd_some h
          cases h2
          exact q_ite (((snd_all t).1 X W c cnd F.fit h1).pt) (qs_weak (iha.2 X W c L _ Oa p F ha) fun i hi => (inter_in hi).1) (qs_weak (ihb.2 X W c L _ Ob q F hb) fun i hi => (inter_in hi).2) mi (mo fun j h => h)
    | _ => exact nn h
  | loop tg k it b ihb =>
    refine ⟨fun X W c L O O' st F h => ?_, noSS fun _ _ _ _ => rfl⟩
    cases st with
    | For tgx iter body orelse pos =>
      cases orelse with
      | cons _ _ => exact nn h
      | nil =>
        replace h : (match chS U xs b c (minus O (tg.slots ++ (escI true k it ++ kills b))) (minus O (tg.slots ++ (escI true k it ++ kills b))) (.SS body) with
          | some O2 => bnd (chI c k it tgx iter && chT c tg tgx && notSet iter && sub (minus O (tg.slots ++ (escI true k it ++ kills b))) O2) (some (minus O (tg.slots ++ (escI true k it ++ kills b))))
          | none => none) = some O' := h
        cases hb : chS U xs b c (minus O (tg.slots ++ (escI true k it ++ kills b))) (minus O (tg.slots ++ (escI true k it ++ kills b))) (.SS body) with
        | none => rw [hb] at h; cases h
        | some O2 =>
          rw [hb] at h
          obtain ⟨h1, h2⟩ := bnd_some h
          cases h2
          obtain ⟨h1, g4⟩ := and3 h1
          obtain ⟨h1, g3⟩ := and3 h1
          obtain ⟨g1, g2⟩ := and3 h1
          refine ps_imp (q_loop (L := L) F.po F.fit.calm (iter_ok F.fit (snd_all it).2.1 (snd_all it).2.2 g1 true) (chT_pg F.fit g2) (ihb.2 X W c _ _ O2 body F hb) g3 mi (mo fun j h => List.mem_append_right _ (List.mem_append_left _ h)) (mo fun j h => List.mem_append_left _ h) (sub_ok g4)) fun Dn σ H q => ?_
          obtain ⟨Nc, Fb, H0, δ, S, p⟩ := q
          refine ⟨Nc, Fb, H0, δ, S, ?_⟩
          have e0 : ex Z (.loop tg k it b) δ = ((evs Z it δ).bind fun as => iterate k as).bind fun ds => loopL tg (fun δ' => ex Z b δ') ds δ := by
            show ((evs Z it δ).bind fun as => (iterate k as).bind fun ds => _) = _
            cases evs Z it δ <;> rfl
          rw [e0] at p
          exact p
    | _ => exact nn h
  | «while» t b ihb =>
    refine ⟨fun X W c L O O' st F h => ?_, noSS fun _ _ _ _ => rfl⟩
    cases st with
    | While cnd body orelse pos =>
      cases orelse with
      | cons _ _ => exact nn h
      | nil =>
        replace h : (match chS U xs b c (minus O (esc false t ++ kills b)) (minus O (esc false t ++ kills b)) (.SS body) with
          | some O2 => bnd (chE c t cnd && sub (minus O (esc false t ++ kills b)) O2) (some (minus O (esc false t ++ kills b)))
          | none => none) = some O' := h
        cases hb : chS U xs b c (minus O (esc false t ++ kills b)) (minus O (esc false t ++ kills b)) (.SS body) with
        | none => rw [hb] at h; cases h
        | some O2 =>
          rw [hb] at h
          obtain ⟨h1, h2⟩ := bnd_some h
          cases h2
          obtain ⟨g1, g2⟩ := and3 h1
          exact q_while F.po (((snd_all t).1 X W c cnd F.fit g1).pt) (ihb.2 X W c _ _ O2 body F hb) mi (mo fun j h => List.mem_append_left _ h) (sub_ok g2)
    | _ => exact nn h
  | raise k =>
    refine ⟨fun X W c L O O' st F h => ?_, noSS fun _ _ _ _ => rfl⟩
    cases st with
    | Raise v w p =>
      replace h : (match rzx v w with
        | some x => bnd (decide (xs[k]? = some x) && glo c.sc x) (some U)
        | none => none) = some O' := h
      cases hx : rzx v w with
      | none => rw [hx] at h; cases h
      | some x =>
        rw [hx] at h
        obtain ⟨px, m, j, p2, pp, rfl, rfl⟩ := rzx_eq hx
        obtain ⟨h1, h2⟩ := bnd_some h
        obtain ⟨h1, h2⟩ := and3 h1
        exact q_raise F.fit.calm F.fit.tk (F.rz k x (of_decide_eq_true h1) (glo_ok F.fit h2) m j px p2 pp)
    | _ => exact nn h
end
end EV

set_option Elab.async false
set_option linter.all false
set_option maxRecDepth 100000
set_option maxHeartbeats 2000000
/-! EvV: defs, by their bodies; the ladder of calls. -/
namespace EV
open PySem PySem.Spec PyProof.Rows L2

/-- what is known of the module's defs, their calls being Z's -/
structure Lv (P : Program) (w : World) (K : PySem.W.Frag) (mg : Str → Option Value) (base : Heap) (G : Wd) (Z : Sem0) (fns : List (Str × Nat × Nat)) (gls xs : List Str) (k : Nat) : Prop where
  hk : K = G.K
  bl : ∀ x ∈ biNames, mg x = none
  gl : ∀ (g : Nat) (x : Str), gls[g]? = some x → ∃ u v d, mg x = some u ∧ RelV v u ∧ Z.glob g = .ok d ∧ ∀ N H, Rep G.K N H v d
  cal : ∀ (f : Nat) (x : Str) (n nd : Nat), fns[f]? = some (x, n, nd) → (Z.dflt f).length = nd ∧ (∀ ds, ds.length ≠ n → Z.call f ds = .bad) ∧ ∃ a fd ps, ps.length = n ∧ mg x = some (.ref a) ∧ PySem.W.keepIn K (.ref a) = true ∧
    (∀ j, j ≤ (Z.dflt f).length → ∃ dvs us, Vals dvs us ∧ Binds K fd ps us ∧ ∀ N H, Reps G.K N H dvs ((Z.dflt f).drop j)) ∧ FnOk P w K mg base (L2.CX P w) k a fd ps (spE G n (Z.call f))
  rz : ∀ (k : Nat) (x : Str), xs[k]? = some x → (x == ("__debug__" : Str)) = false ∧ ∃ C bmB B newId initId, ExcBaseFacts B newId initId bmB ∧ mg x = some (.ref C) ∧ G.cls k = .ref C ∧ PySem.W.excIn K C bmB newId = true ∧ PySem.W.keepIn K (.ref C) = true ∧
    PySem.W.subIn K (.ref C) (.type "BaseException") = some true ∧ PySem.W.typeIn K (.ref C) = some (.type "type")
section
variable {P : Program} {w : World} {K : PySem.W.Frag} {mg : Str → Option Value} {base : Heap} {G : Wd} {Z : Sem0} {fns : List (Str × Nat × Nat)} {gls xs : List Str} {k : Nat}
theorem fn_step (L : Lv P w K mg base G Z fns gls xs k) {g : Fn} {f : Addr} {name qual : Str} {params : Arguments} {body : List Stmt} {scope : Scope} {dV kV doc pm cdv ct oc : Value} {an od : Option Addr} {osl : Array (Option Value)} {N ps : List Str} {U : List Nat} {gens : Bool}
    (lk : K.lookup f = some ⟨oc, od, .func (PySem.W.fnOf name qual params body scope dV kV doc pm an cdv ct), osl⟩) (hcd : PySem.W.codeIn K cdv qual = true) (S : FnScope N ps scope) (hN : N.length = g.slots) (hp : ps.length = g.pars)
    (hcx : gens = true → ∃ cc Pt, GxR.TabB base mg cc Pt ∧ cdv = .ref cc ∧ Pt ∈ G.T) (hch : (chS U xs g.body ⟨N, scope, fun _ => true, fns, gls, gens⟩ [] [] (.SS body)).isSome = true) :
    FnOk P w K mg base (L2.CX P w) (k + 2) f (PySem.W.fnOf name qual params body scope dV kV doc pm an cdv ct) ps (spE G g.pars (runFn Z g)) := by
  refine fn_of lk hcd S (fun vs H Q E h => ?_) fun A outer s H vs Q E hr hsp => ?_
  · obtain ⟨_, _, _, _, _, hl, _⟩ := h
    rw [hl, hp]
  obtain ⟨Nc, ds, nc, tabs, reps, hl, q⟩ := hsp
  obtain ⟨O', hO⟩ := Option.isSome_iff_exists.mp hch
  have hbk : ∀ {P' : Prop}, P' → P' := fun h => h
  have F : FitS (cxOf (L2.CX P w) P w K mg base N qual scope f cdv A outer s H E) G (fun cls d _ H' => E cls d H') Z ⟨N, scope, fun _ => true, fns, gls, gens⟩ xs := by
    refine ⟨⟨L.hk, rfl, hr.mono ?_, rfl, rfl, fun _ _ => rfl, S.nd, L.bl, L.gl, takes_of rfl rfl rfl rfl, fun hg => ?_, fun f' x n nd e => ?_⟩, passes_of rfl, fun k' x e hg m j p p2 pos => ?_⟩
    · cases gens <;> simp
    · obtain ⟨cc, Pt, h1, h2, h3⟩ := hcx hg
      exact ⟨cc, Pt, h1, h2, h3⟩
    · obtain ⟨h1, h2, a, fd, ps', h3, h4, h5, h6, h7⟩ := L.cal f' x n nd e
      refine ⟨h1, h2, a, fd, ps', k, h3, h4, h5, h6, h7, hr.mono ?_⟩
      show k + gens.toNat ≤ k + 1
      cases gens <;> simp
    · obtain ⟨hdb, C, bmB, B, newId, initId, h1, h2, h3, h4, h5, h6, h7⟩ := L.rz k' x e
      have := pmk_own (m := m) (j := j) (p := p) (p2 := p2) (pos := pos) (X := cxOf (L2.CX P w) P w K mg base N qual scope f cdv A outer s H E) h1 h4 h2 h5 (raises_own h6 h7) hg hdb
      rw [h3]
      exact this
  refine ⟨_, (sndS (G := G) (Z := Z) U xs g.body).2 _ (fun cls d _ H' => E cls d H') _ [] [] O' body F hO, ?_⟩
  have hld : vs.length = ds.length := reps.length
  refine ⟨Nc, fun b => H b ≠ none, H, startEnv g.slots ds, ⟨nc, tabs, ?_, fun b h => h, fun b o _ e _ => e, fun b e => e, fun i d _ e => ?_, fun i d h => absurd h (by simp), fun i j a d e h => absurd h (by simp)⟩, ?_⟩
  · unfold L2.start startEnv
    simp only [List.length_append, List.length_map, List.length_replicate]
    rw [hld, hN]
  · have hi : i < ds.length := by
      unfold startEnv at e
      by_cases hi : i < ds.length
      · exact hi
      · rw [List.getElem?_append_right (by simpa using hi), List.getElem?_replicate] at e
        split at e <;> cases e
    unfold startEnv at e
    rw [List.getElem?_append_left (by simpa using hi), List.getElem?_map] at e
    obtain ⟨d', h1, h2⟩ := Option.map_eq_some_iff.mp e
    cases h2
    obtain ⟨v, h3, h4⟩ := reps.get h1
    refine ⟨v, ?_, h4.mono fun a n => ⟨n, fun i d h => absurd h (by simp)⟩⟩
    unfold L2.start
    rw [List.getElem?_append_left (by simp; omega), List.getElem?_map, h3]
    rfl
  · have ext : ∀ {H'}, Kept (fun b => H b ≠ none) H H' → Ext H H' := fun kp => ⟨fun b o e n => kp.1 b o (by show H b ≠ none; rw [e]; simp) e n, kp.2⟩
    unfold runFn at q
    rw [if_pos (by rw [← hld, hl])] at q
    cases e : ex Z g.body (startEnv g.slots ds) with
    | ok o =>
      rw [e] at q
      cases o with
      | nx δ => exact fun σ H' SR => q H' .non (ext SR.kept) SR.tabs .non
      | rt d => exact fun v H' kp t r => q H' v (ext kp) t r
      | bk δ => exact q.elim
      | ct δ => exact q.elim
    | exc c =>
      rw [e] at q
      exact fun σ H' kp t => q H' (ext kp) t
    | bad =>
      rw [e] at q
      exact q.elim
end
/-- the texts' facts of a def, at the head -/
structure DefS (P : Program) (w : World) (K : PySem.W.Frag) (mg : Str → Option Value) (base : Heap) (G : Wd) (fns : List (Str × Nat × Nat)) (gls xs : List Str) (dv : List D) (x : Str) (g : Fn) : Prop where
  ex : ∃ (f : Addr) (name qual : Str) (params : Arguments) (body : List Stmt) (scope : Scope) (dV kV doc pm cdv ct oc : Value) (an od : Option Addr) (osl : Array (Option Value)) (N ps : List Str) (U : List Nat) (gens : Bool),
    K.lookup f = some ⟨oc, od, .func (PySem.W.fnOf name qual params body scope dV kV doc pm an cdv ct), osl⟩ ∧ PySem.W.codeIn K cdv qual = true ∧ FnScope N ps scope ∧ N.length = g.slots ∧ ps.length = g.pars ∧
    (gens = true → ∃ cc Pt, GxR.TabB base mg cc Pt ∧ cdv = .ref cc ∧ Pt ∈ G.T) ∧ (chS U xs g.body ⟨N, scope, fun _ => true, fns, gls, gens⟩ [] [] (.SS body)).isSome = true ∧
    mg x = some (.ref f) ∧ PySem.W.keepIn K (.ref f) = true ∧ (∀ j, j ≤ dv.length → ∃ dvs us, Vals dvs us ∧ Binds K (PySem.W.fnOf name qual params body scope dV kV doc pm an cdv ct) ps us ∧ ∀ N H, Reps G.K N H dvs (dv.drop j))
theorem ladder {P : Program} {w : World} {K : PySem.W.Frag} {mg : Str → Option Value} {base : Heap} {G : Wd} {fns : List (Str × Nat × Nat)} {gls xs : List Str} {glob : Nat → R D} {dflt : Nat → List D} {defs : List Fn}
    (hk : K = G.K) (bl : ∀ x ∈ biNames, mg x = none) (gl : ∀ (g : Nat) (x : Str), gls[g]? = some x → ∃ u v d, mg x = some u ∧ RelV v u ∧ glob g = .ok d ∧ ∀ N H, Rep G.K N H v d)
    (rz : ∀ (k : Nat) (x : Str), xs[k]? = some x → (x == ("__debug__" : Str)) = false ∧ ∃ C bmB B newId initId, ExcBaseFacts B newId initId bmB ∧ mg x = some (.ref C) ∧ G.cls k = .ref C ∧ PySem.W.excIn K C bmB newId = true ∧ PySem.W.keepIn K (.ref C) = true ∧
      PySem.W.subIn K (.ref C) (.type "BaseException") = some true ∧ PySem.W.typeIn K (.ref C) = some (.type "type"))
    (hd : ∀ (f : Nat) (x : Str) (n nd : Nat), fns[f]? = some (x, n, nd) → (dflt f).length = nd ∧ ∃ g, defs[f]? = some g ∧ g.pars = n ∧ DefS P w K mg base G fns gls xs (dflt f) x g) :
    ∀ n : Nat, Lv P w K mg base G ⟨glob, dflt, callN glob dflt defs n⟩ fns gls xs (2 * n)
  | 0 => by
    refine ⟨hk, bl, gl, fun f x m nd e => ?_, rz⟩
    obtain ⟨h1, g, h2, h3, ⟨f', name, qual, params, body, scope, dV, kV, doc, pm, cdv, ct, oc, an, od, osl, N, ps, U, gens, lk, hcd, S, hN, hp, hcx, hch, hm, hkp, hb⟩⟩ := hd f x m nd e
    refine ⟨h1, fun ds _ => rfl, f', _, ps, by rw [hp, h3], hm, hkp, hb, ⟨fun vs H Q E h => ?_, fun A outer s H args us vs Q E _ _ _ _ h => ?_⟩⟩
    · obtain ⟨_, _, _, _, _, _, q⟩ := h
      exact q.elim
    · obtain ⟨_, _, _, _, _, _, q⟩ := h
      exact q.elim
  | n + 1 => by
    have L := ladder hk bl gl rz hd n
    refine ⟨hk, bl, gl, fun f x m nd e => ?_, rz⟩
    obtain ⟨h1, g, h2, h3, ⟨f', name, qual, params, body, scope, dV, kV, doc, pm, cdv, ct, oc, an, od, osl, N, ps, U, gens, lk, hcd, S, hN, hp, hcx, hch, hm, hkp, hb⟩⟩ := hd f x m nd e
    have ec : callN glob dflt defs (n + 1) f = runFn ⟨glob, dflt, callN glob dflt defs n⟩ g := by
      funext ds
      show (match defs[f]? with | some g => runFn ⟨glob, dflt, callN glob dflt defs n⟩ g ds | none => .bad) = _
      rw [h2]
    refine ⟨h1, fun ds hl => ?_, f', _, ps, by rw [hp, h3], hm, hkp, hb, ?_⟩
    · show callN glob dflt defs (n + 1) f ds = .bad
      rw [ec]
      exact if_neg (by rw [h3]; exact hl)
    · show FnOk P w K mg base (L2.CX P w) (2 * n + 2) f' _ ps (spE G m (callN glob dflt defs (n + 1) f))
      rw [ec, ← h3]
      exact fn_step L lk hcd S hN hp hcx hch
end EV

set_option Elab.async false
set_option linter.all false
set_option maxRecDepth 100000
set_option maxHeartbeats 2000000
/-! EvW: a law, its defs read off the head's facts. -/
namespace EV
open PySem PySem.Spec PyProof.Rows L2

/-- a def of the text: its name, statement, slots, defaults, whether it makes generator expressions, its term -/
structure Dd where
  name : Str
  st : Stmt
  N : List Str
  dfl : List He.Dv
  gens : Bool
  fn : Fn
def Dd.defD (d : Dd) : He.DefD := ⟨(d.name, none), d.name, d.name, defArgs d.st, defBody d.st, defScope d.st, d.dfl, []⟩
def Dd.ps (d : Dd) : List Str := d.N.take d.fn.pars
def dvD : He.Dv → D
  | .bl b => .bool b
  | .int i => .int i
  | .str x => .str x
  | _ => .none
def dvOk : He.Dv → Bool
  | .non => true
  | .bl _ => true
  | .int _ => true
  | .str _ => true
  | _ => false
def scB (N ps : List Str) (sc : Scope) : Bool := decide (sc.kind = .function) && !sc.isCoroutine && !sc.isGenerator && decide N.Nodup && decide (N.take ps.length = ps) &&
  ps.all (fun x => decide (sc.names.lookup x = some .local) || decide (sc.names.lookup x = some .cell)) && sc.names.all (fun y => !decide (y.2 = .free))
theorem scB_ok {N ps : List Str} {sc : Scope} (h : scB N ps sc = true) : FnScope N ps sc := by
  unfold scB at h
  simp only [Bool.and_eq_true, decide_eq_true_eq, List.all_eq_true, Bool.or_eq_true, Bool.not_eq_true', decide_eq_false_iff_not] at h
  obtain ⟨⟨⟨⟨⟨⟨h1, h2⟩, h3⟩, h4⟩, h5⟩, h6⟩, h7⟩ := h
  exact ⟨h1, h2, h3, h4, h5, fun x hx => h6 x hx, fun y hy => h7 y hy⟩
def fnsOf (ds : List Dd) : List (Str × Nat × Nat) := ds.map fun d => (d.name, d.fn.pars, d.dfl.length)
def Dd.ok (fns : List (Str × Nat × Nat)) (gls xs : List Str) (d : Dd) : Bool := scB d.N d.ps (defScope d.st) && decide (d.N.length = d.fn.slots) && decide (d.ps.length = d.fn.pars) && d.dfl.all dvOk &&
  (chS (List.range d.fn.slots) xs d.fn.body ⟨d.N, defScope d.st, fun _ => true, fns, gls, d.gens⟩ [] [] (.SS (defBody d.st))).isSome
def BindOk (d : Dd) : Prop := ∀ (K : PySem.W.Frag) (f : Addr) (fd : FuncData), FunD K d.name d.name (defArgs d.st) (defBody d.st) (defScope d.st) (d.dfl.map (He.Dv.v K)) [] f fd → ∀ j, j ≤ d.dfl.length → ∃ us, Vals ((d.dfl.map (He.Dv.v K)).drop j) us ∧ Binds K fd d.ps us
theorem dv_reps {K : PySem.W.Frag} {N : Addr → Prop} {H : Hp} : ∀ {vs : List He.Dv}, vs.all dvOk = true → Reps K N H (vs.map (He.Dv.v K)) (vs.map dvD)
  | [], _ => .nil
  | v :: vs, h => by
    rw [List.all_cons, Bool.and_eq_true] at h
    refine .cons ?_ (dv_reps h.2)
    cases v with
    | non => exact .non
    | bl b => exact .bl b
    | int i => exact .int i
    | str x => exact .str x
    | _ => exact absurd h.1 (by simp [dvOk])
def dfltOf (ds : List Dd) (f : Nat) : List D := match ds[f]? with
  | some d => d.dfl.map dvD
  | none => []
def tfOf (ds : List Dd) : List He.Defn := (ds.filter (·.gens)).map fun d => (d.name, none)
def wdOf (ds : List Dd) (xs : List Str) (K : PySem.W.Frag) : Wd := ⟨K, (tfOf ds).map fun p => (He.cT K p).2, fun k => match xs[k]? with
  | some x => .ref (He.ga K x)
  | none => .none⟩
/-- the facts asked of the head -/
def faOf (ds : List Dd) (xs : List Str) : List He.Fa := ds.map (fun d => .glo d.name) ++ (biNames.map .free ++ (xs.map .glo ++ xs.map .exc))
/-- the constants: each a name, its value, a fact -/
structure GlOk (gls : List Str) (glob : Nat → R D) (K : PySem.W.Frag) (mg : Str → Option Value) : Prop where
  ok : ∀ (g : Nat) (x : Str), gls[g]? = some x → ∃ u v d, mg x = some u ∧ RelV v u ∧ glob g = .ok d ∧ ∀ N H, Rep K N H v d
section
variable {ds : List Dd} {gls xs : List Str} {glob : Nat → R D} {l : PySem.W.OpenLaw} {w : World} {K : PySem.W.Frag} {h : Heap} {mg : Str → Option Value} {fa : Addr} {fas : List He.Fa} {ex : PySem.W.Frag → Bool} {ts : List He.Tab}
theorem gen_cx {base : Heap} (tb : ∀ p ∈ (tfOf ds).map (He.cT K), LamX.TabB base mg p.1 p.2) {d : Dd} (hd : d ∈ ds) {oc dV kV doc pm cdv ct : Value} {od an : Option Addr} {osl : Array (Option Value)} {q : Str} {params : Arguments} {body : List Stmt} {scope : Scope}
    (lk : K.lookup (He.fAd K (d.name, none)) = some ⟨oc, od, .func (PySem.W.fnOf d.name q params body scope dV kV doc pm an cdv ct), osl⟩) (hcd : PySem.W.codeIn K cdv q = true) (hg : d.gens = true) :
    ∃ cc Pt, GxR.TabB base mg cc Pt ∧ cdv = .ref cc ∧ Pt ∈ (wdOf ds xs K).T := by
  obtain ⟨c, rfl⟩ := He.codeIn_ref hcd
  have e : He.codeOf K (d.name, none) = c := He.codeOf_eq lk rfl
  have hm : ((d.name, none) : He.Defn) ∈ tfOf ds := List.mem_map.mpr ⟨d, List.mem_filter.mpr ⟨hd, hg⟩, rfl⟩
  have t := tb _ (List.mem_map_of_mem (f := He.cT K) hm)
  refine ⟨c, (He.cT K (d.name, none)).2, ?_, rfl, List.mem_map.mpr ⟨_, hm, rfl⟩⟩
  have e1 : (He.cT K (d.name, none)).1 = c := e
  rw [← e1]
  exact ⟨t.code, t.bm, t.gP⟩
theorem defS_of {P : Program} {base : Heap} (X : K.In h) (G : h.Ns mainGlobals mg) (c : He.SaysD fas (ds.map Dd.defD) K) (hfa : ∀ f ∈ faOf ds xs, f ∈ fas) (hok : ∀ d ∈ ds, d.ok (fnsOf ds) gls xs = true) (hb : ∀ d ∈ ds, BindOk d)
    (tb : ∀ p ∈ (tfOf ds).map (He.cT K), LamX.TabB base mg p.1 p.2) {d : Dd} (hd : d ∈ ds) : DefS P w K mg base (wdOf ds xs K) (fnsOf ds) gls xs (d.dfl.map dvD) d.name d.fn := by
  obtain ⟨fd, F⟩ := c.defs (List.mem_map_of_mem (f := Dd.defD) hd)
  have hm : mg d.name = some (.ref (He.ga K d.name)) := He.glo_ok X G (c.facts (hfa _ (List.mem_append_left _ (List.mem_map.mpr ⟨d, hd, rfl⟩))))
  have o := hok d hd
  unfold Dd.ok at o
  simp only [Bool.and_eq_true, decide_eq_true_eq] at o
  obtain ⟨⟨⟨⟨o1, o2⟩, o3⟩, o4⟩, o5⟩ := o
  have B := hb d hd K _ _ F
  obtain ⟨oc, od, dV, kV, doc, pm, an, cdv, ct, osl, rfl, lk, hcd, hD, hK⟩ := F.ex
  refine ⟨He.fAd K (d.name, none), d.name, d.name, defArgs d.st, defBody d.st, defScope d.st, dV, kV, doc, pm, cdv, ct, oc, an, od, osl, d.N, d.ps, _, d.gens, lk, hcd, scB_ok o1, o2, o3, fun hg => gen_cx tb hd lk hcd hg, o5, hm, F.kp, fun j hj => ?_⟩
  obtain ⟨us, h1, h2⟩ := B j (by simpa using hj)
  exact ⟨_, us, h1, h2, fun N H => Reps.drop j (dv_reps o4)⟩
/-- a law: its defs checked, its facts, and what it answers -/
theorem law_at {d : Dd} {li n : Nat} {x : Str} (X : K.In h) (G : h.Ns mainGlobals mg) (c : He.SaysX fas (ds.map Dd.defD) ts (tfOf ds) ex w h K) (hfa : ∀ f ∈ faOf ds xs, f ∈ fas) (hdb : xs.all (fun x => !(x == ("__debug__" : Str))) = true) (hok : ∀ d ∈ ds, d.ok (fnsOf ds) gls xs = true) (hb : ∀ d ∈ ds, BindOk d)
    (hgl : GlOk gls glob K mg) (hl : ds[li]? = some d) (hps : d.ps = [x]) (hdf : d.dfl = []) (hmg : mg d.name = some (.ref fa)) (hms : l.most = some 63)
    (hB : ∀ (f : Addr) (fd : FuncData), FunD K d.name d.name (defArgs d.st) (defBody d.st) (defScope d.st) (d.dfl.map (He.Dv.v K)) [] f fd → ∀ (s : Shared) (u : Value), BindsTo s fd ⟨[u], []⟩ [(x, u)])
    (hlaw : ∀ ns : List Int, ns.length ≤ 63 → (∀ z ∈ ns, Builtin.Int.intBits z ≤ 1048576) → callN glob (dfltOf ds) (ds.map Dd.fn) (n + 1) li [.list (ns.map .int)] = .ok (.bool true)) :
    LamX.LawAtS l w K (L2.CX l.prog w) (2 * n + 2) 63 x mg fa h := by
  have cd : He.SaysD fas (ds.map Dd.defD) K := congrArg (fun z : He.AlT => z.1) c.t
  have hd : d ∈ ds := List.mem_of_getElem? hl
  obtain ⟨fd, F⟩ := cd.defs (List.mem_map_of_mem (f := Dd.defD) hd)
  have B := hB _ _ F
  have o := hok d hd
  unfold Dd.ok at o
  simp only [Bool.and_eq_true, decide_eq_true_eq] at o
  obtain ⟨⟨⟨⟨o1, o2⟩, o3⟩, o4⟩, o5⟩ := o
  have hp1 : d.fn.pars = 1 := by rw [← o3, hps]; rfl
  have hm : mg d.name = some (.ref (He.ga K d.name)) := He.glo_ok X G (cd.facts (hfa _ (List.mem_append_left _ (List.mem_map.mpr ⟨d, hd, rfl⟩))))
  have ef : fa = He.fAd K (d.name, none) := by
    rw [hmg] at hm
    cases hm
    rfl
  have ec : callN glob (dfltOf ds) (ds.map Dd.fn) (n + 1) li = runFn ⟨glob, dfltOf ds, callN glob (dfltOf ds) (ds.map Dd.fn) n⟩ d.fn := by
    funext as
    show (match (ds.map Dd.fn)[li]? with | some g => runFn ⟨glob, dfltOf ds, callN glob (dfltOf ds) (ds.map Dd.fn) n⟩ g as | none => .bad) = _
    rw [List.getElem?_map, hl]
    rfl
  have hbi : ∀ y ∈ biNames, mg y = none := fun y hy => He.free_ok X G (cd.facts (hfa _ (List.mem_append_right _ (List.mem_append_left _ (List.mem_map_of_mem hy)))))
  have hrz : ∀ (k : Nat) (x : Str), xs[k]? = some x → (x == ("__debug__" : Str)) = false ∧ ∃ C bmB B newId initId, ExcBaseFacts B newId initId bmB ∧ mg x = some (.ref C) ∧ (wdOf ds xs K).cls k = .ref C ∧ PySem.W.excIn K C bmB newId = true ∧ PySem.W.keepIn K (.ref C) = true ∧
      PySem.W.subIn K (.ref C) (.type "BaseException") = some true ∧ PySem.W.typeIn K (.ref C) = some (.type "type") := fun k x e => by
    have hx : x ∈ xs := List.mem_of_getElem? e
    have z := List.all_eq_true.mp hdb x hx
    refine ⟨by simpa using z, He.ga K x, He.veBase, _, _, _, PySem.F.excBase_ValueError, ?_, ?_, ?_⟩
    · exact He.glo_ok X G (cd.facts (hfa _ (List.mem_append_right _ (List.mem_append_right _ (List.mem_append_left _ (List.mem_map_of_mem hx))))))
    · show (match xs[k]? with | some x => Value.ref (He.ga K x) | none => .none) = _
      rw [e]
    · exact He.exc_ok (cd.facts (hfa _ (List.mem_append_right _ (List.mem_append_right _ (List.mem_append_right _ (List.mem_map_of_mem hx))))))
  obtain ⟨oc, od, dV, kV, doc, pm, an, cdv, ct, osl, rfl, lk, hcd, hD, hK⟩ := F.ex
  have hgl' : ∀ (g : Nat) (x : Str), gls[g]? = some x → ∃ u v d, mg x = some u ∧ RelV v u ∧ glob g = .ok d ∧ ∀ N H, Rep (wdOf ds xs K).K N H v d := hgl.ok
  refine ⟨PySem.W.fnOf d.defD.name d.defD.qual d.defD.params d.defD.body d.defD.scope dV kV doc pm an cdv ct, (tfOf ds).map (He.cT K), spE (wdOf ds xs K) 1 (callN glob (dfltOf ds) (ds.map Dd.fn) (n + 1) li), fun p hp => ?_, fun p hp => ?_, fun p hp => ?_, fun s u => ?_, fun H a ns hn hbits hT hS => ?_, fun base KB GB tb => ?_⟩
  · obtain ⟨q, hq, rfl⟩ := List.mem_map.mp hp
    exact c.empty q hq
  · obtain ⟨q, hq, rfl⟩ := List.mem_map.mp hp
    exact c.out q hq
  · obtain ⟨q, hq, rfl⟩ := List.mem_map.mp hp
    exact PySem.W.codeHd_of_K X (c.hd q hq)
  · exact B s u
  · refine ⟨fun _ => True, [.list (ns.map .int)], fun _ _ => trivial, fun P hP => ?_, .cons (.lst (hS.elim (fun q => .inl ⟨q, trivial⟩) .inr) ?_ ?_) .nil, rfl, ?_⟩
    · obtain ⟨q, hq, rfl⟩ := List.mem_map.mp hP
      exact ⟨#[], hT _ (List.mem_map_of_mem hq), trivial⟩
    · rw [List.length_map]
      exact Nat.le_trans hn (by decide)
    · clear hS hn hbits
      induction ns with
      | nil => exact .nil
      | cons z ns ih => exact .cons (.int z) ih
    · rw [hlaw ns hn hbits]
      intro H' v _ _ r
      cases r
      rfl
  · have L := ladder (P := l.prog) (w := w) (base := base) (G := wdOf ds xs K) (fns := fnsOf ds) (gls := gls) (xs := xs) (glob := glob) (dflt := dfltOf ds) (defs := ds.map Dd.fn) rfl hbi hgl' hrz (fun f x m nd e => ?_) n
    · have S := fn_step L (g := d.fn) lk hcd (scB_ok o1) o2 o3 (fun hg => gen_cx tb hd lk hcd hg) o5
      rw [ec, ef, ← hps]
      rw [hp1] at S
      exact S
    · unfold fnsOf at e
      rw [List.getElem?_map] at e
      obtain ⟨d', h1, h2⟩ := Option.map_eq_some_iff.mp e
      cases h2
      have hd' : d' ∈ ds := List.mem_of_getElem? h1
      have ed : dfltOf ds f = d'.dfl.map dvD := by
        show (match ds[f]? with | some d => d.dfl.map dvD | none => []) = _
        rw [h1]
      refine ⟨by rw [ed, List.length_map], d'.fn, by rw [List.getElem?_map, h1]; rfl, rfl, ?_⟩
      rw [ed]
      exact defS_of X G cd hfa hok hb tb hd'
end
end EV

set_option Elab.async false
set_option linter.all false
set_option maxRecDepth 1000000
set_option maxHeartbeats 4000000
namespace Lk27
open PySem PySem.Spec PyProof.Rows EV
abbrev prog : Program := PySem.Challenge.pw_truthworks_k27_learning_weights
def stm (i : Nat) : Stmt := prog.main.body.getD i (.Pass ⟨0, 0, 0, 0⟩)
def gls : List Str := []
def xs : List Str := ["BadTable", "BadNumber"]
/-- is_whole -/
def f0 : Fn := ⟨2, 2, (.seq (.ret (.bop true (.isi .int (.var 0)) (.bop true (.not (.isi .bool (.var 0))) (.bop false (.cmp .Is (.var 1) (.con .none)) (.cmp .GtE (.var 0) (.var 1)))))) .nil)⟩
def d0 : Dd := ⟨"is_whole", stm 5, ["value", "low"], [.non], false, f0⟩
theorem b0 : BindOk d0 := fun K f fd F j hj => match j, hj with
  | 0, _ => L2.FunD.binds1 F 1 0 (fun z => by cases z) rfl fun _ _ _ _ _ _ _ us its hu hi => match us, hu, its, hi with | [_], _, [_], _ => ⟨_, rfl, rfl⟩
  | 1, _ => L2.FunD.binds1 F 2 1 (fun z => by cases z) rfl fun _ _ _ _ _ _ _ us its hu hi => match us, hu, its, hi with | [_, _], _, [_], _ => ⟨_, rfl, rfl⟩
/-- is_table -/
def f1 : Fn := ⟨2, 1, (.seq (.ite (.bop false (.not (.isi .tuple (.var 0))) (.cmp .NotIn (.bi .len (.cons (.var 0) .nil)) (.tup (.cons (.con (.int 1)) (.cons (.con (.int 2)) (.cons (.con (.int 4)) (.cons (.con (.int 8)) (.cons (.con (.int 16)) (.cons (.con (.int 32)) .nil))))))))) (.seq (.ret (.con (.bool false))) .nil) .nil) (.seq (.ret (.gen true (.one 1) .plain (.cons (.var 0) .nil) (.bop true (.call 0 (.cons (.var 1) (.cons (.con (.int 0)) .nil)) 1) (.cmp .LtE (.var 1) (.con (.int 1)))))) .nil))⟩
def d1 : Dd := ⟨"is_table", stm 6, ["table", "one"], [], true, f1⟩
theorem b1 : BindOk d1 := fun K f fd F j hj => match j, hj with
  | 0, _ => ⟨[], .nil, L2.FunD.bindsN F fun _ _ _ _ _ _ us hl => match us, hl with | [_], _ => rfl⟩
/-- check_table -/
def f2 : Fn := ⟨1, 1, (.seq (.ite (.not (.call 1 (.cons (.var 0) .nil) 0)) (.seq (.raise 0) .nil) .nil) .nil)⟩
def d2 : Dd := ⟨"check_table", stm 7, ["table"], [], false, f2⟩
theorem b2 : BindOk d2 := fun K f fd F j hj => match j, hj with
  | 0, _ => ⟨[], .nil, L2.FunD.bindsN F fun _ _ _ _ _ _ us hl => match us, hl with | [_], _ => rfl⟩
/-- letters_of -/
def f3 : Fn := ⟨1, 1, (.seq (.drop (.call 2 (.cons (.var 0) .nil) 0)) (.seq (.ret (.bin .Sub (.bi .bitlen (.cons (.bi .len (.cons (.var 0) .nil)) .nil)) (.con (.int 1)))) .nil))⟩
def d3 : Dd := ⟨"letters_of", stm 8, ["table"], [], false, f3⟩
theorem b3 : BindOk d3 := fun K f fd F j hj => match j, hj with
  | 0, _ => ⟨[], .nil, L2.FunD.bindsN F fun _ _ _ _ _ _ us hl => match us, hl with | [_], _ => rfl⟩
/-- by_weights_of -/
def f4 : Fn := ⟨7, 2, (.seq (.ite (.bop false (.not (.isi .tuple (.var 0))) (.cmp .Gt (.bi .len (.cons (.var 0) .nil)) (.con (.int 5)))) (.seq (.raise 1) .nil) .nil) (.seq (.ite (.not (.gen true (.one 5) .plain (.cons (.var 0) .nil) (.bop true (.call 0 (.cons (.var 5) .nil) 0) (.cmp .Lt (.bi .abs (.cons (.var 5) .nil)) (.con (.int 100)))))) (.seq (.raise 1) .nil) .nil) (.seq (.ite (.bop false (.not (.call 0 (.cons (.var 1) .nil) 0)) (.cmp .Gt (.bi .abs (.cons (.var 1) .nil)) (.con (.int 999)))) (.seq (.raise 1) .nil) .nil) (.seq (.set 2 (.bi .len (.cons (.var 0) .nil))) (.seq (.fresh 3 (.lst .nil)) (.seq (.loop (.one 4) .range (.cons (.bin .LShift (.con (.int 1)) (.var 2)) .nil) (.seq (.app 3 (.ite (.cmp .GtE (.bi .sum (.cons (.comp (.one 6) .range (.cons (.var 2) .nil) (.bin .BitAnd (.bin .RShift (.var 4) (.var 6)) (.con (.int 1))) (.ix (.var 0) (.var 6))) .nil)) (.var 1)) (.con (.int 1)) (.con (.int 0)))) .nil)) (.seq (.ret (.bi .tuple (.cons (.var 3) .nil))) .nil)))))))⟩
def d4 : Dd := ⟨"by_weights_of", stm 10, ["weights", "bound", "many", "found", "place", "one", "k"], [], true, f4⟩
theorem b4 : BindOk d4 := fun K f fd F j hj => match j, hj with
  | 0, _ => ⟨[], .nil, L2.FunD.bindsN F fun _ _ _ _ _ _ us hl => match us, hl with | [_, _], _ => rfl⟩
/-- judge_weights -/
def f5 : Fn := ⟨4, 2, (.seq (.set 2 (.call 3 (.cons (.var 0) .nil) 0)) (.seq (.ite (.bop false (.not (.isi .tuple (.var 1))) (.bop false (.cmp .NotEq (.bi .len (.cons (.var 1) .nil)) (.con (.int 2))) (.bop false (.not (.isi .tuple (.ix (.var 1) (.con (.int 0))))) (.cmp .NotEq (.bi .len (.cons (.ix (.var 1) (.con (.int 0))) .nil)) (.var 2))))) (.seq (.ret (.con (.bool false))) .nil) .nil) (.seq (.ite (.bop false (.not (.gen true (.one 3) .plain (.cons (.ix (.var 1) (.con (.int 0))) .nil) (.bop true (.call 0 (.cons (.var 3) .nil) 0) (.cmp .Lt (.bi .abs (.cons (.var 3) .nil)) (.con (.int 100)))))) (.bop false (.not (.call 0 (.cons (.ix (.var 1) (.con (.int 1))) .nil) 0)) (.cmp .Gt (.bi .abs (.cons (.ix (.var 1) (.con (.int 1))) .nil)) (.con (.int 999))))) (.seq (.ret (.con (.bool false))) .nil) .nil) (.seq (.ret (.cmp .Eq (.call 4 (.cons (.ix (.var 1) (.con (.int 0))) (.cons (.ix (.var 1) (.con (.int 1))) .nil)) 0) (.var 0))) .nil))))⟩
def d5 : Dd := ⟨"judge_weights", stm 11, ["table", "pair", "many", "one"], [], true, f5⟩
theorem b5 : BindOk d5 := fun K f fd F j hj => match j, hj with
  | 0, _ => ⟨[], .nil, L2.FunD.bindsN F fun _ _ _ _ _ _ us hl => match us, hl with | [_, _], _ => rfl⟩
/-- signs_of -/
def f6 : Fn := ⟨8, 1, (.seq (.drop (.call 2 (.cons (.var 0) .nil) 0)) (.seq (.set 1 (.call 3 (.cons (.var 0) .nil) 0)) (.seq (.fresh 2 (.lst .nil)) (.seq (.loop (.one 3) .range (.cons (.var 1) .nil) (.seq (.fresh 4 (.comp (.one 7) .range (.cons (.bi .len (.cons (.var 0) .nil)) .nil) (.not (.bin .BitAnd (.bin .RShift (.var 7) (.var 3)) (.con (.int 1)))) (.bin .Sub (.ix (.var 0) (.bin .BitOr (.var 7) (.bin .LShift (.con (.int 1)) (.var 3)))) (.ix (.var 0) (.var 7))))) (.seq (.pars [5, 6] (.cons (.bi .min (.cons (.var 4) .nil)) (.cons (.bi .max (.cons (.var 4) .nil)) .nil))) (.seq (.app 2 (.ite (.chain .Lt .Lt (.var 5) (.con (.int 0)) (.var 6)) (.con .none) (.ite (.cmp .Gt (.var 6) (.con (.int 0))) (.var 6) (.var 5)))) .nil)))) (.seq (.ret (.bi .tuple (.cons (.var 2) .nil))) .nil)))))⟩
def d6 : Dd := ⟨"signs_of", stm 12, ["table", "many", "found", "k", "steps", "low", "high", "place"], [], false, f6⟩
theorem b6 : BindOk d6 := fun K f fd F j hj => match j, hj with
  | 0, _ => ⟨[], .nil, L2.FunD.bindsN F fun _ _ _ _ _ _ us hl => match us, hl with | [_], _ => rfl⟩
/-- least_weights -/
def f7 : Fn := ⟨11, 2, (.seq (.set 2 (.call 3 (.cons (.var 0) .nil) 0)) (.seq (.ite (.bop false (.cmp .Gt (.var 2) (.con (.int 4))) (.bop false (.not (.call 0 (.cons (.var 1) (.cons (.con (.int 1)) .nil)) 1)) (.cmp .Gt (.var 1) (.con (.int 4))))) (.seq (.raise 1) .nil) .nil) (.seq (.set 3 (.call 6 (.cons (.var 0) .nil) 0)) (.seq (.ite (.cmp .In (.con .none) (.var 3)) (.seq (.ret (.con .none)) .nil) .nil) (.seq (.set 4 (.con .none)) (.seq (.loop (.one 5) .plain (.cons (.call 8 (.cons (.comp (.one 9) .plain (.cons (.var 3) .nil) (.con (.bool true)) (.ite (.cmp .Eq (.var 9) (.con (.int 0))) (.con (.int 0)) (.var 1))) .nil) 0) .nil) (.seq (.set 6 (.bi .tuple (.cons (.comp (.tup [9, 10]) .zip (.cons (.var 5) (.cons (.var 3) .nil)) (.con (.bool true)) (.bin .Mult (.var 9) (.var 10))) .nil))) (.seq (.set 7 (.tup (.cons (.bi .sum (.cons (.var 5) .nil)) (.cons (.var 6) .nil)))) (.seq (.ite (.bop false (.cmp .Is (.var 4) (.con .none)) (.cmp .Lt (.var 7) (.ix (.var 4) (.con (.int 0))))) (.seq (.set 8 (.call 9 (.cons (.var 0) (.cons (.var 6) .nil)) 0)) (.seq (.ite (.cmp .IsNot (.var 8) (.con .none)) (.seq (.set 4 (.tup (.cons (.var 7) (.cons (.var 8) .nil)))) .nil) .nil) .nil)) .nil) .nil)))) (.seq (.ret (.ite (.cmp .Is (.var 4) (.con .none)) (.con .none) (.tup (.cons (.ix (.ix (.var 4) (.con (.int 0))) (.con (.int 1))) (.cons (.ix (.var 4) (.con (.int 1))) .nil))))) .nil)))))))⟩
def d7 : Dd := ⟨"least_weights", stm 13, ["table", "most", "many", "signs", "best", "weights", "signed", "key", "bound", "one", "sign"], [], false, f7⟩
theorem b7 : BindOk d7 := fun K f fd F j hj => match j, hj with
  | 0, _ => ⟨[], .nil, L2.FunD.bindsN F fun _ _ _ _ _ _ us hl => match us, hl with | [_, _], _ => rfl⟩
/-- rows_within -/
def f8 : Fn := ⟨5, 1, (.seq (.fresh 1 (.lst (.cons (.tup .nil) .nil))) (.seq (.loop (.one 2) .plain (.cons (.var 0) .nil) (.seq (.fresh 1 (.comp2 (.one 3) .plain (.cons (.var 1) .nil) (.con (.bool true)) (.one 4) .range (.cons (.bin .Add (.var 2) (.con (.int 1))) .nil) (.con (.bool true)) (.bin .Add (.var 3) (.tup (.cons (.var 4) .nil))))) .nil)) (.seq (.ret (.var 1)) .nil)))⟩
def d8 : Dd := ⟨"rows_within", stm 14, ["tops", "found", "top", "row", "one"], [], false, f8⟩
theorem b8 : BindOk d8 := fun K f fd F j hj => match j, hj with
  | 0, _ => ⟨[], .nil, L2.FunD.bindsN F fun _ _ _ _ _ _ us hl => match us, hl with | [_], _ => rfl⟩
/-- bound_for -/
def f9 : Fn := ⟨10, 2, (.seq (.set 2 (.bi .len (.cons (.var 1) .nil))) (.seq (.fresh 3 (.comp (.one 6) .range (.cons (.bi .len (.cons (.var 0) .nil)) .nil) (.con (.bool true)) (.bi .sum (.cons (.comp (.one 9) .range (.cons (.var 2) .nil) (.bin .BitAnd (.bin .RShift (.var 6) (.var 9)) (.con (.int 1))) (.ix (.var 1) (.var 9))) .nil)))) (.seq (.fresh 4 (.comp (.tup [7, 8]) .zip (.cons (.var 3) (.cons (.var 0) .nil)) (.cmp .Eq (.var 8) (.con (.int 1))) (.var 7))) (.seq (.fresh 5 (.comp (.tup [7, 8]) .zip (.cons (.var 3) (.cons (.var 0) .nil)) (.cmp .Eq (.var 8) (.con (.int 0))) (.var 7))) (.seq (.ite (.bop true (.cmp .Gt (.bi .len (.cons (.var 4) .nil)) (.con (.int 0))) (.bop true (.cmp .Gt (.bi .len (.cons (.var 5) .nil)) (.con (.int 0))) (.cmp .GtE (.bi .max (.cons (.var 5) .nil)) (.bi .min (.cons (.var 4) .nil))))) (.seq (.ret (.con .none)) .nil) .nil) (.seq (.ret (.ite (.cmp .Gt (.bi .len (.cons (.var 5) .nil)) (.con (.int 0))) (.bin .Add (.bi .max (.cons (.var 5) .nil)) (.con (.int 1))) (.bi .min (.cons (.var 4) .nil)))) .nil))))))⟩
def d9 : Dd := ⟨"bound_for", stm 15, ["table", "weights", "many", "sums", "yes", "no", "place", "total", "one", "k"], [], false, f9⟩
theorem b9 : BindOk d9 := fun K f fd F j hj => match j, hj with
  | 0, _ => ⟨[], .nil, L2.FunD.bindsN F fun _ _ _ _ _ _ us hl => match us, hl with | [_, _], _ => rfl⟩
/-- learnt -/
def f10 : Fn := ⟨13, 2, (.seq (.drop (.call 2 (.cons (.var 0) .nil) 0)) (.seq (.ite (.bop false (.not (.call 0 (.cons (.var 1) (.cons (.con (.int 1)) .nil)) 1)) (.cmp .Gt (.var 1) (.con (.int 200)))) (.seq (.raise 1) .nil) .nil) (.seq (.set 2 (.call 3 (.cons (.var 0) .nil) 0)) (.seq (.pars [4, 5, 6] (.cons (.rep (.cons (.con (.int 0)) .nil) (.var 2)) (.cons (.con (.int 0)) (.cons (.con (.int 0)) .nil)))) (.seq (.loop (.one 3) .range (.cons (.var 1) .nil) (.seq (.set 7 (.var 6)) (.seq (.loop (.tup [8, 9]) .enumerate (.cons (.var 0) .nil) (.seq (.set 10 (.ite (.cmp .GtE (.bi .sum (.cons (.comp (.one 12) .range (.cons (.var 2) .nil) (.bin .BitAnd (.bin .RShift (.var 8) (.var 12)) (.con (.int 1))) (.ix (.var 4) (.var 12))) .nil)) (.var 5)) (.con (.int 1)) (.con (.int 0)))) (.seq (.ite (.cmp .NotEq (.var 10) (.var 9)) (.seq (.aug 6 .Add (.con (.int 1))) (.seq (.set 11 (.bin .Sub (.var 9) (.var 10))) (.seq (.fresh 4 (.comp (.one 12) .range (.cons (.var 2) .nil) (.con (.bool true)) (.bin .Add (.ix (.var 4) (.var 12)) (.ite (.bin .BitAnd (.bin .RShift (.var 8) (.var 12)) (.con (.int 1))) (.var 11) (.con (.int 0)))))) (.seq (.aug 5 .Sub (.var 11)) .nil)))) .nil) .nil))) (.seq (.ite (.cmp .Eq (.var 6) (.var 7)) (.seq .brk .nil) .nil) .nil)))) (.seq (.ret (.tup (.cons (.tup (.cons (.bi .tuple (.cons (.var 4) .nil)) (.cons (.var 5) .nil))) (.cons (.var 6) .nil)))) .nil))))))⟩
def d10 : Dd := ⟨"learnt", stm 16, ["table", "rounds", "many", "turn", "weights", "bound", "wrong", "before", "place", "one", "told", "step", "k"], [], false, f10⟩
theorem b10 : BindOk d10 := fun K f fd F j hj => match j, hj with
  | 0, _ => ⟨[], .nil, L2.FunD.bindsN F fun _ _ _ _ _ _ us hl => match us, hl with | [_, _], _ => rfl⟩
/-- _law_cell -/
def f11 : Fn := ⟨2, 2, (.seq (.ite (.cmp .Lt (.var 1) (.bi .len (.cons (.var 0) .nil))) (.seq (.ret (.ix (.var 0) (.var 1))) .nil) .nil) (.seq (.ret (.con (.int 0))) .nil))⟩
def d11 : Dd := ⟨"_law_cell", stm 18, ["script", "k"], [], false, f11⟩
theorem b11 : BindOk d11 := fun K f fd F j hj => match j, hj with
  | 0, _ => ⟨[], .nil, L2.FunD.bindsN F fun _ _ _ _ _ _ us hl => match us, hl with | [_, _], _ => rfl⟩
/-- _law_draws -/
def f12 : Fn := ⟨6, 2, (.seq (.fresh 2 (.lst .nil)) (.seq (.set 3 (.bi .int (.cons (.var 0) .nil))) (.seq (.loop (.one 4) .range (.cons (.var 1) .nil) (.seq (.set 5 (.bin .Mod (.bi .int (.cons (.bin .Add (.bin .Add (.bin .Mult (.var 0) (.con (.int 48271))) (.bin .Mult (.var 4) (.con (.int 69621)))) (.con (.int 1))) .nil)) (.con (.int 2147483647)))) (.seq (.ite (.cmp .GtE (.var 0) (.bin .Pow (.con (.int 10)) (.con (.int 18)))) (.seq (.app 2 (.bin .Mod (.var 3) (.con (.int 1009)))) (.seq (.set 3 (.bin .FloorDiv (.var 3) (.con (.int 1009)))) .nil)) (.seq (.app 2 (.bin .FloorDiv (.bin .Mod (.bi .int (.cons (.bin .Add (.bin .Mult (.var 5) (.var 5)) (.bin .Mult (.var 5) (.con (.int 40692)))) .nil)) (.con (.int 2147483399))) (.con (.int 7)))) .nil)) .nil))) (.seq (.ret (.var 2)) .nil))))⟩
def d12 : Dd := ⟨"_law_draws", stm 19, ["cell", "count", "result", "rest", "k", "mixed"], [], false, f12⟩
theorem b12 : BindOk d12 := fun K f fd F j hj => match j, hj with
  | 0, _ => ⟨[], .nil, L2.FunD.bindsN F fun _ _ _ _ _ _ us hl => match us, hl with | [_, _], _ => rfl⟩
/-- _law_table -/
def f13 : Fn := ⟨11, 3, (.seq (.pars [4, 5] (.cons (.bin .LShift (.con (.int 1)) (.var 2)) (.cons (.bin .Mod (.ix (.var 0) (.var 1)) (.con (.int 7))) .nil))) (.seq (.fresh 3 (.comp (.one 8) .range (.cons (.var 4) .nil) (.con (.bool true)) (.bin .Mod (.ix (.var 0) (.bin .Add (.bin .Add (.var 1) (.con (.int 1))) (.var 8))) (.con (.int 2))))) (.seq (.ite (.cmp .Eq (.var 5) (.con (.int 1))) (.seq (.fresh 3 (.comp (.one 8) .range (.cons (.var 4) .nil) (.con (.bool true)) (.bin .Mod (.bin .Add (.bi .sum (.cons (.comp (.one 9) .range (.cons (.var 2) .nil) (.bin .BitAnd (.bin .RShift (.var 8) (.var 9)) (.con (.int 1))) (.ix (.var 3) (.bin .Mod (.var 9) (.var 4)))) .nil)) (.ix (.var 0) (.bin .Add (.var 1) (.con (.int 33))))) (.con (.int 2))))) .nil) .nil) (.seq (.ite (.cmp .Eq (.var 5) (.con (.int 2))) (.seq (.fresh 6 (.comp (.one 8) .range (.cons (.var 4) .nil) (.cmp .Eq (.bin .Mod (.ix (.var 0) (.bin .Add (.bin .Add (.var 1) (.con (.int 1))) (.var 8))) (.con (.int 4))) (.con (.int 0))) (.var 8))) (.seq (.fresh 3 (.comp (.one 8) .range (.cons (.var 4) .nil) (.con (.bool true)) (.bi .int (.cons (.cmp .NotEq (.comp (.one 10) .plain (.cons (.var 6) .nil) (.cmp .Eq (.bin .BitAnd (.var 10) (.var 8)) (.var 10)) (.var 10)) (.lst .nil)) .nil)))) .nil)) .nil) (.seq (.ite (.cmp .Eq (.var 5) (.con (.int 3))) (.seq (.fresh 7 (.comp (.one 9) .range (.cons (.var 2) .nil) (.con (.bool true)) (.bin .Sub (.bin .Mod (.ix (.var 0) (.bin .Add (.bin .Add (.var 1) (.con (.int 1))) (.var 9))) (.con (.int 7))) (.con (.int 2))))) (.seq (.fresh 3 (.comp (.one 8) .range (.cons (.var 4) .nil) (.con (.bool true)) (.bi .int (.cons (.cmp .Gt (.bi .sum (.cons (.comp (.one 9) .range (.cons (.var 2) .nil) (.bin .BitAnd (.bin .RShift (.var 8) (.var 9)) (.con (.int 1))) (.ix (.var 7) (.var 9))) .nil)) (.bin .Sub (.bin .Mod (.ix (.var 0) (.bin .Add (.var 1) (.con (.int 33)))) (.con (.int 7))) (.con (.int 2)))) .nil)))) .nil)) .nil) (.seq (.ite (.cmp .Eq (.var 5) (.con (.int 4))) (.seq (.fresh 3 (.comp (.one 8) .range (.cons (.var 4) .nil) (.con (.bool true)) (.bin .Mod (.ix (.var 0) (.bin .Add (.bin .Add (.var 1) (.con (.int 1))) (.bi .sum (.cons (.comp (.one 9) .range (.cons (.var 2) .nil) (.con (.bool true)) (.bin .BitAnd (.bin .RShift (.var 8) (.var 9)) (.con (.int 1)))) .nil)))) (.con (.int 2))))) .nil) .nil) (.seq (.ret (.bi .tuple (.cons (.var 3) .nil))) .nil)))))))⟩
def d13 : Dd := ⟨"_law_table", stm 20, ["n", "at", "many", "row", "size", "kind", "seeds", "weights", "place", "k", "one"], [], false, f13⟩
theorem b13 : BindOk d13 := fun K f fd F j hj => match j, hj with
  | 0, _ => ⟨[], .nil, L2.FunD.bindsN F fun _ _ _ _ _ _ us hl => match us, hl with | [_, _, _], _ => rfl⟩
/-- law -/
def f14 : Fn := ⟨19, 1, (.seq (.set 1 (.call 12 (.cons (.call 11 (.cons (.var 0) (.cons (.con (.int 0)) .nil)) 0) (.cons (.con (.int 60)) .nil)) 0)) (.seq (.set 2 (.bin .Mod (.ix (.var 1) (.con (.int 0))) (.con (.int 5)))) (.seq (.set 3 (.bin .LShift (.con (.int 1)) (.var 2))) (.seq (.set 4 (.call 13 (.cons (.var 1) (.cons (.con (.int 1)) (.cons (.var 2) .nil))) 0)) (.seq (.set 5 (.bin .Add (.bin .Mod (.ix (.var 1) (.con (.int 40))) (.con (.int 12))) (.con (.int 1)))) (.seq (.pars [9, 10, 11] (.cons (.comp (.one 16) .range (.cons (.var 2) .nil) (.con (.bool true)) (.con (.int 0))) (.cons (.con (.int 0)) (.cons (.con (.int 0)) .nil)))) (.seq (.set 6 (.con (.bool false))) (.seq (.loop (.one 7) .range (.cons (.var 5) .nil) (.seq (.ite (.not (.var 6)) (.seq (.set 14 (.var 11)) (.seq (.loop (.one 15) .range (.cons (.var 3) .nil) (.seq (.set 17 (.bi .int (.cons (.cmp .GtE (.bi .sum (.cons (.comp (.one 16) .range (.cons (.var 2) .nil) (.bin .BitAnd (.bin .RShift (.var 15) (.var 16)) (.con (.int 1))) (.ix (.var 9) (.var 16))) .nil)) (.var 10)) .nil))) (.seq (.ite (.cmp .NotEq (.var 17) (.ix (.var 4) (.var 15))) (.seq (.set 11 (.bin .Add (.var 11) (.con (.int 1)))) (.seq (.set 18 (.bin .Sub (.ix (.var 4) (.var 15)) (.var 17))) (.seq (.fresh 9 (.comp (.one 16) .range (.cons (.var 2) .nil) (.con (.bool true)) (.bin .Add (.ix (.var 9) (.var 16)) (.bin .Mult (.var 18) (.bin .BitAnd (.bin .RShift (.var 15) (.var 16)) (.con (.int 1))))))) (.seq (.set 10 (.bin .Sub (.var 10) (.var 18))) .nil)))) .nil) .nil))) (.seq (.set 6 (.cmp .Eq (.var 11) (.var 14))) .nil))) .nil) .nil)) (.seq (.ite (.cmp .NotEq (.call 10 (.cons (.var 4) (.cons (.var 5) .nil)) 0) (.tup (.cons (.tup (.cons (.bi .tuple (.cons (.var 9) .nil)) (.cons (.var 10) .nil))) (.cons (.var 11) .nil)))) (.seq (.ret (.con (.bool false))) .nil) .nil) (.seq (.sets [12, 13] (.call 10 (.cons (.var 4) (.cons (.con (.int 200)) .nil)) 0)) (.seq (.set 8 (.cmp .IsNot (.call 7 (.cons (.var 4) (.cons (.con (.int 4)) .nil)) 0) (.con .none))) (.seq (.ret (.bop true (.cmp .Eq (.call 5 (.cons (.var 4) (.cons (.var 12) .nil)) 0) (.var 8)) (.cmp .GtE (.var 13) (.var 11)))) .nil))))))))))))⟩
def d14 : Dd := ⟨"law", stm 21, ["script", "n", "many", "size", "table", "rounds", "fine", "turn", "weighed", "weights", "bound", "wrong", "pair", "count", "before", "p", "k", "told", "step"], [], false, f14⟩
theorem b14 : BindOk d14 := fun K f fd F j hj => match j, hj with
  | 0, _ => ⟨[], .nil, L2.FunD.bindsN F fun _ _ _ _ _ _ us hl => match us, hl with | [_], _ => rfl⟩
def ds : List Dd := [d0, d1, d2, d3, d4, d5, d6, d7, d8, d9, d10, d11, d12, d13, d14]
theorem k0 : d0.ok (fnsOf ds) gls xs = true := by decide +kernel
theorem k1 : d1.ok (fnsOf ds) gls xs = true := by decide +kernel
theorem k2 : d2.ok (fnsOf ds) gls xs = true := by decide +kernel
theorem k3 : d3.ok (fnsOf ds) gls xs = true := by decide +kernel
theorem k4 : d4.ok (fnsOf ds) gls xs = true := by decide +kernel
theorem k5 : d5.ok (fnsOf ds) gls xs = true := by decide +kernel
theorem k6 : d6.ok (fnsOf ds) gls xs = true := by decide +kernel
theorem k7 : d7.ok (fnsOf ds) gls xs = true := by decide +kernel
theorem k8 : d8.ok (fnsOf ds) gls xs = true := by decide +kernel
theorem k9 : d9.ok (fnsOf ds) gls xs = true := by decide +kernel
theorem k10 : d10.ok (fnsOf ds) gls xs = true := by decide +kernel
theorem k11 : d11.ok (fnsOf ds) gls xs = true := by decide +kernel
theorem k12 : d12.ok (fnsOf ds) gls xs = true := by decide +kernel
theorem k13 : d13.ok (fnsOf ds) gls xs = true := by decide +kernel
theorem k14 : d14.ok (fnsOf ds) gls xs = true := by decide +kernel
theorem hok : ∀ d ∈ ds, d.ok (fnsOf ds) gls xs = true := by
  intro d hd
  simp only [ds, List.mem_cons, List.not_mem_nil, or_false] at hd
  rcases hd with rfl | rfl | rfl | rfl | rfl | rfl | rfl | rfl | rfl | rfl | rfl | rfl | rfl | rfl | rfl
  · exact k0
  · exact k1
  · exact k2
  · exact k3
  · exact k4
  · exact k5
  · exact k6
  · exact k7
  · exact k8
  · exact k9
  · exact k10
  · exact k11
  · exact k12
  · exact k13
  · exact k14
theorem hb : ∀ d ∈ ds, BindOk d := by
  intro d hd
  simp only [ds, List.mem_cons, List.not_mem_nil, or_false] at hd
  rcases hd with rfl | rfl | rfl | rfl | rfl | rfl | rfl | rfl | rfl | rfl | rfl | rfl | rfl | rfl | rfl
  · exact b0
  · exact b1
  · exact b2
  · exact b3
  · exact b4
  · exact b5
  · exact b6
  · exact b7
  · exact b8
  · exact b9
  · exact b10
  · exact b11
  · exact b12
  · exact b13
  · exact b14
theorem hB {K : PySem.W.Frag} : ∀ (f : Addr) (fd : FuncData), L2.FunD K d14.name d14.name (L2.defArgs d14.st) (L2.defBody d14.st) (L2.defScope d14.st) (d14.dfl.map (He.Dv.v K)) [] f fd → ∀ (s : Shared) (u : Value), BindsTo s fd ⟨[u], []⟩ [("script", u)] :=
  fun f fd F s u => L2.FunD.bindsA (ps := ["script"]) F (fun _ _ _ _ _ _ us hl => match us, hl with | [_], _ => rfl) s [u] rfl
abbrev R : PySem.W.OpenRow := PySem.W.OpenLaw.row PySem.Challenge.rw_truthworks_k27_learning_weights
def fas : List He.Fa := faOf ds xs
def loose : List Str := (["TruthError", "BadNumber", "BadTable", "is_whole", "is_table", "check_table", "letters_of", "by_weights_of", "judge_weights", "signs_of", "least_weights", "rows_within", "bound_for", "learnt", "_law_cell", "_law_draws", "_law_table"] : List Str)
abbrev hk : PySem.W.Hook := He.hookX 5 fas (ds.map Dd.defD) [] (tfOf ds) (fun _ => true)
def ob (s : PySem.W.SharedT) : He.AlX := He.obsX 5 fas (ds.map Dd.defD) [] (tfOf ds) (fun _ => true) (HandSHeadRun.getT s)
theorem ob_eq (s : PySem.W.SharedT) : ob s = hk.obs s.abs := He.obsX_eq (HandSHeadRun.getT_eq s)
theorem run (w : World) : HandSHeadRun.RunEq R (PySem.W.view R.prog [21]) hk ob 4000 loose w := by
  intro os
  kernel_rfl
end Lk27
namespace Lk27
open PySem PySem.W PySem.Calls PyProof.Rows EV
/-- what is left: what the law answers -/
theorem holds_of (hlaw : ∀ ns : List Int, ns.length ≤ 63 → (∀ z ∈ ns, Builtin.Int.intBits z ≤ 1048576) → callN (fun _ => .bad) (dfltOf ds) (ds.map Dd.fn) 7 14 [.list (ns.map .int)] = .ok (.bool true)) : PySem.Challenge.rw_truthworks_k27_learning_weights.Holds := by
  w_on; o_law
  refine HandSHeadRun.head_any (r := OpenLaw.row PySem.Challenge.rw_truthworks_k27_learning_weights) (q := view (OpenLaw.row PySem.Challenge.rw_truthworks_k27_learning_weights).prog [21]) (H := hk) (ob := ob) (M := 4000) (loose := loose) (d := HandSHeadRun.topDef (OpenLaw.row PySem.Challenge.rw_truthworks_k27_learning_weights).prog 21) (kwd := []) ob_eq
    (by kernel_rfl) (fun s => by kernel_rfl) run (by kernel_rfl) (by kernel_rfl) (by kernel_rfl) (by rfl) (by first | assumption | decide +kernel) (by decide +kernel) ⟨rfl, rfl, rfl, rfl, rfl, by decide +kernel⟩ ?hw ?hc
  case hw => w_witness2
  case hc =>
    refine LamX.walk_ofTsE (l := PySem.Challenge.rw_truthworks_k27_learning_weights) (n := 63) (k := 14) (x := "script") (CX := fun w => L2.CX PySem.Challenge.rw_truthworks_k27_learning_weights.prog w) rfl (by decide) (by kernel_rfl) ⟨rfl, by decide, by decide⟩ ?F (fun w H s e s' z => by obtain ⟨_, _, _, _, _, _, _, _, _, _, _, _, q⟩ := z; exact q)
    intro w mg fa h Y G hmg0
    obtain ⟨K, KX, c⟩ := Y
    have hmg : mg ("law" : PySem.Str) = some (.ref fa) := by
      have e : (HandSHeadRun.topDef (OpenLaw.row PySem.Challenge.rw_truthworks_k27_learning_weights).prog 21).name = ("law" : PySem.Str) := by kernel_rfl
      rw [← e]
      exact hmg0
    exact ⟨K, KX, law_at (n := 6) (d := d14) (li := 14) KX G c (fun f hf => hf) (by decide) hok hb ⟨fun g x e => by cases g <;> cases e⟩ rfl rfl rfl hmg rfl hB hlaw⟩
end Lk27

set_option Elab.async false
set_option linter.all false
set_option maxRecDepth 100000
/-! EvX: laws of the pure evaluator: comprehensions as maps, loops as folds. -/
namespace EV
open PySem
theorem compL_ok {tg : Tg} {c : Env → R Bool} {e : Env → R D} {δ : Env} {b : D → Bool} {g : D → D} {η : D → Env} : ∀ {ds : List D}, (∀ d ∈ ds, bindTg tg d δ = .ok (η d) ∧ c (η d) = .ok (b d) ∧ (b d = true → e (η d) = .ok (g d))) → compL tg c e δ ds = .ok ((ds.filter b).map g)
  | [], _ => rfl
  | d :: r, h => by
    obtain ⟨h1, h2, h3⟩ := h d List.mem_cons_self
    have ih := compL_ok (tg := tg) (c := c) (e := e) (δ := δ) (b := b) (g := g) (η := η) (ds := r) fun d hd => h d (List.mem_cons_of_mem _ hd)
    unfold compL
    rw [h1]
    dsimp only [R.bind]
    rw [h2]
    dsimp only
    cases hb : b d with
    | true =>
      rw [if_pos rfl, h3 hb]
      dsimp only
      rw [ih, List.filter_cons, if_pos hb]
      rfl
    | false =>
      rw [if_neg Bool.false_ne_true, ih, List.filter_cons, if_neg (by rw [hb]; exact Bool.false_ne_true)]
theorem calm_of {α : Type} {x : R α} {a : α} (h : x = .ok a) : x.calm = .ok a := by rw [h]; rfl
section
variable {Z : Sem0} {δ : Env} {it c e : Tm}
theorem rangeL_zero (n : Nat) : rangeL 0 n = (List.range n).map fun i : Nat => PyData.int i := by
  unfold rangeL
  congr 1
  funext i
  rw [Int.zero_add]
/-- [e for j in it if c] -/
theorem comp_plain {k : Itk} {as : List D} {α : Type} {emb : α → D} {xs : List α} {j : Nat} {b : α → Bool} {g : α → D} (hi : evs Z it δ = .ok as) (hk : iterate k as = .ok (xs.map emb)) (hc : ∀ x ∈ xs, ((ev Z c (δ.set j (some (emb x)))).bind truth) = .ok (b x))
    (he : ∀ x ∈ xs, b x = true → ev Z e (δ.set j (some (emb x))) = .ok (g x)) : ev Z (.comp (.one j) k it c e) δ = .ok (.list ((xs.filter b).map g)) := by
  have key : ∀ xs : List α, (∀ x ∈ xs, ((ev Z c (δ.set j (some (emb x)))).bind truth) = .ok (b x)) → (∀ x ∈ xs, b x = true → ev Z e (δ.set j (some (emb x))) = .ok (g x)) →
      compL (.one j) (fun δ' => ((ev Z c δ').bind truth).calm) (fun δ' => (ev Z e δ').calm) δ (xs.map emb) = .ok ((xs.filter b).map g) := by
    intro xs
    induction xs with
    | nil => intro _ _; rfl
    | cons x xs ih =>
      intro h1 h2
      have ih' := ih (fun y hy => h1 y (List.mem_cons_of_mem _ hy)) (fun y hy => h2 y (List.mem_cons_of_mem _ hy))
      show (R.bind ((ev Z c (δ.set j (some (emb x)))).bind truth).calm fun b' => _) = _
      rw [h1 x List.mem_cons_self]
      show (if b x = true then _ else _) = _
      by_cases hb : b x = true
      · rw [if_pos hb]
        show (R.bind (ev Z e (δ.set j (some (emb x)))).calm fun y => _) = _
        rw [h2 x List.mem_cons_self hb]
        show (R.bind (compL _ _ _ _ _) _) = _
        rw [ih', List.filter_cons, if_pos hb]
        rfl
      · rw [if_neg hb, List.filter_cons, if_neg hb]
        exact ih'
  show ((evs Z it δ).bind fun as => (iterate k as).bind fun ds => (compL (.one j) (fun δ' => ((ev Z c δ').bind truth).calm) (fun δ' => (ev Z e δ').calm) δ ds).bind fun ys => R.ok (PyData.list ys)) = _
  rw [hi]
  show (R.bind (iterate k as) _) = _
  rw [hk]
  show (R.bind (compL _ _ _ _ _) _) = _
  rw [key xs hc he]
theorem iter_range {n : Nat} (h : n ≤ 16777216) : iterate .range [.int n] = .ok ((List.range n).map fun i : Nat => PyData.int i) := by
  rw [← rangeL_zero]
  show (if big62 n && decide ((n : Int) ≤ 16777216) then R.ok (rangeL 0 (n : Int).toNat) else .bad) = _
  rw [if_pos]
  · rfl
  · unfold big62
    simp only [Bool.and_eq_true, decide_eq_true_eq]
    omega
/-- all, any of a generator expression -/
theorem gen_all {k : Itk} {as : List D} {α : Type} {emb : α → D} {xs : List α} {j : Nat} {u : Bool} {b : α → Bool} (hi : evs Z it δ = .ok as) (hk : iterate k as = .ok (xs.map emb)) (he : ∀ x ∈ xs, ((ev Z e (δ.set j (some (emb x)))).bind tbool) = .ok (b x)) :
    ev Z (.gen u (.one j) k it e) δ = .ok (.bool (if u = true then xs.all b else xs.any b)) := by
  have key : ∀ xs : List α, (∀ x ∈ xs, ((ev Z e (δ.set j (some (emb x)))).bind tbool) = .ok (b x)) → gL u (.one j) (fun δ' => ((ev Z e δ').bind tbool).calm) δ (xs.map emb) = .ok (if u = true then xs.all b else xs.any b) := by
    intro xs
    induction xs with
    | nil => intro _; cases u <;> rfl
    | cons x xs ih =>
      intro h1
      have ih' := ih (fun y hy => h1 y (List.mem_cons_of_mem _ hy))
      show (R.bind ((ev Z e (δ.set j (some (emb x)))).bind tbool).calm fun b' => _) = _
      rw [h1 x List.mem_cons_self]
      show (if b x = u then gL u (.one j) _ δ (xs.map emb) else R.ok (!u)) = _
      rw [ih']
      rw [List.all_cons, List.any_cons]
      cases u <;> cases b x <;> rfl
  show ((evs Z it δ).bind fun as => (iterate k as).bind fun ds => (gL u (.one j) (fun δ' => ((ev Z e δ').bind tbool).calm) δ ds).bind fun b => R.ok (PyData.bool b)) = _
  rw [hi]
  show (R.bind (iterate k as) _) = _
  rw [hk]
  show (R.bind (gL _ _ _ _ _) _) = _
  rw [key xs he]
/-! ### statements -/
theorem seq_nx {a b : Sm} {δ' : Env} (h : ex Z a δ = .ok (.nx δ')) : ex Z (.seq a b) δ = ex Z b δ' := by
  show (R.bind (ex Z a δ) _) = _
  rw [h]
theorem seq_out {a b : Sm} {o : Out} (h : ex Z a δ = .ok o) (hn : ∀ δ', o ≠ .nx δ') : ex Z (.seq a b) δ = .ok o := by
  show (R.bind (ex Z a δ) _) = _
  rw [h]
  cases o with
  | nx δ' => exact absurd rfl (hn δ')
  | _ => rfl
theorem set_ok {i : Nat} {d : D} (h : ev Z e δ = .ok d) : ex Z (.set i e) δ = .ok (.nx (δ.set i (some d))) := by
  show (R.bind (ev Z e δ) _) = _
  rw [h]
theorem fresh_ok {i : Nat} {d : D} (h : ev Z e δ = .ok d) : ex Z (.fresh i e) δ = .ok (.nx (δ.set i (some d))) := by
  show (R.bind (ev Z e δ) _) = _
  rw [h]
theorem drop_ok {d : D} (h : ev Z e δ = .ok d) : ex Z (.drop e) δ = .ok (.nx δ) := by
  show (R.bind (ev Z e δ) _) = _
  rw [h]
theorem ret_ok {d : D} (h : ev Z e δ = .ok d) : ex Z (.ret e) δ = .ok (.rt d) := by
  show (R.bind (ev Z e δ) _) = _
  rw [h]
theorem ite_ok {a b : Sm} {k : Bool} (h : (ev Z c δ).bind truth = .ok k) : ex Z (.ite c a b) δ = if k = true then ex Z a δ else ex Z b δ := by
  have e1 : ex Z (.ite c a b) δ = ((ev Z c δ).bind truth).bind fun k => if k = true then ex Z a δ else ex Z b δ := by
    show (R.bind (ev Z c δ) fun x => (truth x).bind _) = _
    cases ev Z c δ with
    | ok a => rfl
    | exc c => rfl
    | bad => rfl
  rw [e1, h]
/-- a loop that ends no sooner -/
theorem loopL_fold {α S : Type} {tg : Tg} {b : Env → R Out} {emb : α → D} {env : S → Env} {step : S → α → S} {P : S → Prop} : ∀ {as : List α} {s : S}, P s → (∀ s a, P s → a ∈ as → ((bindTg tg (emb a) (env s)).bind b = .ok (.nx (env (step s a)))) ∧ P (step s a)) →
    loopL tg b (as.map emb) (env s) = .ok (.nx (env (as.foldl step s))) ∧ P (as.foldl step s)
  | [], s, hp, _ => ⟨rfl, hp⟩
  | a :: as, s, hp, h => by
    obtain ⟨h1, h2⟩ := h s a hp List.mem_cons_self
    have ih := loopL_fold (tg := tg) (b := b) (emb := emb) (env := env) (step := step) (P := P) (as := as) h2 fun s a hp ha => h s a hp (List.mem_cons_of_mem _ ha)
    refine ⟨?_, ih.2⟩
    have e1 : loopL tg b ((a :: as).map emb) (env s) = ((bindTg tg (emb a) (env s)).bind b).bind fun o => match o with
        | .nx δ2 => loopL tg b (as.map emb) δ2
        | .ct δ2 => loopL tg b (as.map emb) δ2
        | .bk δ2 => .ok (.nx δ2)
        | .rt d => .ok (.rt d) := by
      show (R.bind (bindTg tg (emb a) (env s)) _) = _
      cases bindTg tg (emb a) (env s) with
      | ok a => rfl
      | exc c => rfl
      | bad => rfl
    rw [e1, h1]
    exact ih.1
theorem loop_fold {α S : Type} {tg : Tg} {k : Itk} {as : List D} {b : Sm} {emb : α → D} {env : S → Env} {step : S → α → S} {P : S → Prop} {xs : List α} {s : S} (hi : evs Z it (env s) = .ok as) (hk : iterate k as = .ok (xs.map emb)) (hp : P s)
    (h : ∀ s a, P s → a ∈ xs → ((bindTg tg (emb a) (env s)).bind fun δ' => ex Z b δ') = .ok (.nx (env (step s a))) ∧ P (step s a)) : ex Z (.loop tg k it b) (env s) = .ok (.nx (env (xs.foldl step s))) ∧ P (xs.foldl step s) := by
  have q := loopL_fold (tg := tg) (b := fun δ' => ex Z b δ') (as := xs) hp h
  refine ⟨?_, q.2⟩
  show (R.bind (evs Z it (env s)) fun as => (iterate k as).bind fun ds => loopL tg (fun δ' => ex Z b δ') ds (env s)) = _
  rw [hi]
  show (R.bind (iterate k as) _) = _
  rw [hk]
  exact q.1
end
end EV
namespace EV
open PySem
theorem run_rt {Z : Sem0} {f : Fn} {ds : List D} {δ : Env} {d : D} (h : ds.length = f.pars) (hd : startEnv f.slots ds = δ) (e : ex Z f.body δ = .ok (.rt d)) : runFn Z f ds = .ok d := by
  unfold runFn
  rw [if_pos h, hd, e]
theorem run_nx {Z : Sem0} {f : Fn} {ds : List D} {δ δ' : Env} (h : ds.length = f.pars) (hd : startEnv f.slots ds = δ) (e : ex Z f.body δ = .ok (.nx δ')) : runFn Z f ds = .ok .none := by
  unfold runFn
  rw [if_pos h, hd, e]
end EV

set_option Elab.async false
set_option linter.all false
set_option maxRecDepth 100000
/-! EvY: more laws of the pure evaluator: loops by a relation, bits, indices, sums. -/
namespace EV
open PySem PyProof.Rows
section
variable {Z : Sem0} {δ : Env} {it c e : Tm}
/-- a loop that ends no sooner, its environments told by a relation -/
theorem loopL_rel {α S : Type} {tg : Tg} {b : Env → R Out} {emb : α → D} {Q : S → Env → Prop} {step : S → α → S} : ∀ {as : List α} {s : S} {δ : Env}, Q s δ → (∀ s δ a, Q s δ → a ∈ as → ∃ δ', (bindTg tg (emb a) δ).bind b = .ok (.nx δ') ∧ Q (step s a) δ') →
    ∃ δ', loopL tg b (as.map emb) δ = .ok (.nx δ') ∧ Q (as.foldl step s) δ'
  | [], s, δ, hp, _ => ⟨δ, rfl, hp⟩
  | a :: as, s, δ, hp, h => by
    obtain ⟨δ1, h1, h2⟩ := h s δ a hp List.mem_cons_self
    obtain ⟨δ2, e2, q2⟩ := loopL_rel (tg := tg) (b := b) (emb := emb) (Q := Q) (step := step) (as := as) h2 fun s δ a hp ha => h s δ a hp (List.mem_cons_of_mem _ ha)
    refine ⟨δ2, ?_, q2⟩
    have e1 : loopL tg b ((a :: as).map emb) δ = ((bindTg tg (emb a) δ).bind b).bind fun o => match o with
        | .nx δ2 => loopL tg b (as.map emb) δ2
        | .ct δ2 => loopL tg b (as.map emb) δ2
        | .bk δ2 => .ok (.nx δ2)
        | .rt d => .ok (.rt d) := by
      show (R.bind (bindTg tg (emb a) δ) _) = _
      cases bindTg tg (emb a) δ with
      | ok a => rfl
      | exc c => rfl
      | bad => rfl
    rw [e1, h1]
    exact e2
theorem loop_rel {α S : Type} {tg : Tg} {k : Itk} {as : List D} {b : Sm} {emb : α → D} {Q : S → Env → Prop} {step : S → α → S} {xs : List α} {s : S} (hi : evs Z it δ = .ok as) (hk : iterate k as = .ok (xs.map emb)) (hp : Q s δ)
    (h : ∀ s δ a, Q s δ → a ∈ xs → ∃ δ', ((bindTg tg (emb a) δ).bind fun δ' => ex Z b δ') = .ok (.nx δ') ∧ Q (step s a) δ') : ∃ δ', ex Z (.loop tg k it b) δ = .ok (.nx δ') ∧ Q (xs.foldl step s) δ' := by
  obtain ⟨δ', h1, h2⟩ := loopL_rel (tg := tg) (b := fun δ' => ex Z b δ') (as := xs) hp h
  refine ⟨δ', ?_, h2⟩
  show (R.bind (evs Z it δ) fun as => (iterate k as).bind fun ds => loopL tg (fun δ' => ex Z b δ') ds δ) = _
  rw [hi]
  show (R.bind (iterate k as) _) = _
  rw [hk]
  exact h1
/-- a loop that may break -/
def iterB {α S : Type} (step : S → α → S) (stop : S → S → Bool) : List α → S → S
  | [], s => s
  | a :: as, s => if stop s (step s a) = true then step s a else iterB step stop as (step s a)
theorem loopL_relB {α S : Type} {tg : Tg} {b : Env → R Out} {emb : α → D} {Q : S → Env → Prop} {step : S → α → S} {stop : S → S → Bool} : ∀ {as : List α} {s : S} {δ : Env}, Q s δ → (∀ s δ a, Q s δ → a ∈ as → ∃ δ', (bindTg tg (emb a) δ).bind b = .ok (if stop s (step s a) = true then .bk δ' else .nx δ') ∧ Q (step s a) δ') →
    ∃ δ', loopL tg b (as.map emb) δ = .ok (.nx δ') ∧ Q (iterB step stop as s) δ'
  | [], s, δ, hp, _ => ⟨δ, rfl, hp⟩
  | a :: as, s, δ, hp, h => by
    obtain ⟨δ1, h1, h2⟩ := h s δ a hp List.mem_cons_self
    have e1 : loopL tg b ((a :: as).map emb) δ = ((bindTg tg (emb a) δ).bind b).bind fun o => match o with
        | .nx δ2 => loopL tg b (as.map emb) δ2
        | .ct δ2 => loopL tg b (as.map emb) δ2
        | .bk δ2 => .ok (.nx δ2)
        | .rt d => .ok (.rt d) := by
      show (R.bind (bindTg tg (emb a) δ) _) = _
      cases bindTg tg (emb a) δ with
      | ok a => rfl
      | exc c => rfl
      | bad => rfl
    unfold iterB
    by_cases hs : stop s (step s a) = true
    · rw [if_pos hs] at h1 ⊢
      refine ⟨δ1, ?_, h2⟩
      rw [e1, h1]
    · rw [if_neg hs] at h1 ⊢
      obtain ⟨δ2, e2, q2⟩ := loopL_relB (tg := tg) (b := b) (emb := emb) (Q := Q) (step := step) (stop := stop) (as := as) h2 fun s δ a hp ha => h s δ a hp (List.mem_cons_of_mem _ ha)
      refine ⟨δ2, ?_, q2⟩
      rw [e1, h1]
      exact e2
theorem loop_relB {α S : Type} {tg : Tg} {k : Itk} {as : List D} {b : Sm} {emb : α → D} {Q : S → Env → Prop} {step : S → α → S} {stop : S → S → Bool} {xs : List α} {s : S} (hi : evs Z it δ = .ok as) (hk : iterate k as = .ok (xs.map emb)) (hp : Q s δ)
    (h : ∀ s δ a, Q s δ → a ∈ xs → ∃ δ', ((bindTg tg (emb a) δ).bind fun δ' => ex Z b δ') = .ok (if stop s (step s a) = true then .bk δ' else .nx δ') ∧ Q (step s a) δ') : ∃ δ', ex Z (.loop tg k it b) δ = .ok (.nx δ') ∧ Q (iterB step stop xs s) δ' := by
  obtain ⟨δ', h1, h2⟩ := loopL_relB (tg := tg) (b := fun δ' => ex Z b δ') (as := xs) hp h
  refine ⟨δ', ?_, h2⟩
  show (R.bind (evs Z it δ) fun as => (iterate k as).bind fun ds => loopL tg (fun δ' => ex Z b δ') ds δ) = _
  rw [hi]
  show (R.bind (iterate k as) _) = _
  rw [hk]
  exact h1
/-! ### values -/
theorem bit_int (p k : Nat) : Builtin.bitAnd ((p : Int) / 2 ^ k) 1 = if p.testBit k then 1 else 0 := by
  rw [bitAnd_m1]
  have e : ((p : Int) / 2 ^ k) % 2 = ((p / 2 ^ k % 2 : Nat) : Int) := by
    rw [Int.natCast_emod, Int.natCast_ediv, Int.natCast_pow]
    rfl
  rw [e]
  by_cases h : p.testBit k = true
  · rw [if_pos h]
    rw [Nat.testBit_eq_decide_div_mod_eq, decide_eq_true_eq] at h
    rw [h]
    rfl
  · rw [if_neg h]
    rw [Nat.testBit_eq_decide_div_mod_eq, decide_eq_true_eq] at h
    have : p / 2 ^ k % 2 = 0 := by omega
    rw [this]
    rfl
theorem ev_bit {i j p k : Nat} (hi : envGet δ i = .ok (.int p)) (hj : envGet δ j = .ok (.int k)) : ev Z (.bin .BitAnd (.bin .RShift (.var i) (.var j)) (.con (.int 1))) δ = .ok (.int (if p.testBit k then 1 else 0)) := by
  show (((envGet δ i).bind fun x => (envGet δ j).bind fun y => binop .RShift x y).bind fun x => binop .BitAnd x (.int 1)) = _
  rw [hi, hj]
  show (R.bind (if decide (0 ≤ (k : Int)) then R.ok (PyData.int ((p : Int) / 2 ^ (k : Int).toNat)) else .bad) fun x => binop .BitAnd x (.int 1)) = _
  rw [if_pos (decide_eq_true (Int.natCast_nonneg k))]
  show R.ok (PyData.int (Builtin.bitAnd ((p : Int) / 2 ^ k) 1)) = _
  rw [bit_int]
theorem truth_bit (b : Bool) : truth (.int (if b then 1 else 0)) = .ok b := by cases b <;> rfl
theorem place_nat {n k : Nat} (h : k < n) : place? n (k : Int) = some k := by
  unfold place?
  rw [if_pos (Int.natCast_nonneg k), Int.toNat_natCast, if_pos h]
theorem index_list {xs : List D} {k : Nat} {d : D} (h : xs[k]? = some d) : index (.list xs) (.int k) = .ok d := by
  have hk : k < xs.length := (List.getElem?_eq_some_iff.mp h).1
  unfold index
  dsimp only
  rw [place_nat hk]
  dsimp only
  rw [h]
theorem index_tup {xs : List D} {k : Nat} {d : D} (h : xs[k]? = some d) : index (.tuple xs) (.int k) = .ok d := by
  have hk : k < xs.length := (List.getElem?_eq_some_iff.mp h).1
  unfold index
  dsimp only
  rw [place_nat hk]
  dsimp only
  rw [h]
theorem ints_map : ∀ l : List Int, ints? (l.map PyData.int) = some l
  | [] => rfl
  | i :: l => by
    show (match ints? (l.map PyData.int) with | some l => some (i :: l) | none => none) = _
    rw [ints_map l]
theorem sum_list (l : List Int) : bicall .sum [.list (l.map .int)] = .ok (.int l.sum) := by
  show (match ints? (l.map PyData.int) with | some l => R.ok (PyData.int l.sum) | none => .bad) = _
  rw [ints_map]
/-- a list or a tuple of ints -/
def seqD (t : Bool) (l : List Int) : D := if t then .tuple (l.map .int) else .list (l.map .int)
theorem index_seq {t : Bool} {l : List Int} {k : Nat} (h : k < l.length) : index (seqD t l) (.int k) = .ok (.int (l.getD k 0)) := by
  have e : (l.map PyData.int)[k]? = some (PyData.int (l.getD k 0)) := by
    rw [List.getElem?_map, List.getElem?_eq_getElem h]
    rw [List.getD_eq_getElem?_getD, List.getElem?_eq_getElem h]
    rfl
  cases t with
  | true => exact index_tup e
  | false => exact index_list e
theorem get_set_ne {δ : Env} {i j : Nat} {d : D} {x : R D} (h : envGet δ i = x) (n : j ≠ i) : envGet (δ.set j (some d)) i = x := by
  unfold envGet at h ⊢
  rw [List.getElem?_set_ne n]
  exact h
theorem get_set_eq {δ : Env} {j : Nat} {d : D} (h : j < δ.length) : envGet (δ.set j (some d)) j = .ok d := by
  unfold envGet
  rw [List.getElem?_set_self h]
/-- the sum of the weights at a place's bits -/
def dot (w : List Int) (m p : Nat) : Int := (((List.range m).filter fun k => p.testBit k).map fun k => w.getD k 0).sum
theorem ev_dot {t : Bool} {w : List Int} {m p a im ip k : Nat} (hw : envGet δ a = .ok (seqD t w)) (hm : envGet δ im = .ok (.int m)) (hp : envGet δ ip = .ok (.int p)) (hl : w.length = m) (hm2 : m ≤ 16777216) (ha : k ≠ a) (hi : k ≠ ip) (hk : k < δ.length) :
    ev Z (.bi .sum (.cons (.comp (.one k) .range (.cons (.var im) .nil) (.bin .BitAnd (.bin .RShift (.var ip) (.var k)) (.con (.int 1))) (.ix (.var a) (.var k))) .nil)) δ = .ok (.int (dot w m p)) := by
  have h1 : ev Z (.comp (.one k) .range (.cons (.var im) .nil) (.bin .BitAnd (.bin .RShift (.var ip) (.var k)) (.con (.int 1))) (.ix (.var a) (.var k))) δ = .ok (.list (((List.range m).filter fun k => p.testBit k).map fun k => PyData.int (w.getD k 0))) := by
    refine comp_plain (as := [.int m]) (emb := fun i : Nat => PyData.int i) (b := fun k => p.testBit k) (g := fun k => PyData.int (w.getD k 0)) ?_ (iter_range hm2) (fun x hx => ?_) (fun x hx hb => ?_)
    · show (R.bind (envGet δ im) _) = _
      rw [hm]
      rfl
    · rw [ev_bit (p := p) (k := x) (get_set_ne hp hi) (get_set_eq hk)]
      exact truth_bit _
    · show ((envGet (δ.set k (some (.int x))) a).bind fun y => (envGet (δ.set k (some (.int x))) k).bind fun z => index y z) = _
      rw [get_set_ne hw ha, get_set_eq hk]
      exact index_seq (by rw [hl]; exact List.mem_range.mp hx)
  show ((ev Z (.comp (.one k) .range (.cons (.var im) .nil) (.bin .BitAnd (.bin .RShift (.var ip) (.var k)) (.con (.int 1))) (.ix (.var a) (.var k))) δ).bind fun x => R.ok [x]).bind (fun ds => bicall .sum ds) = _
  rw [h1]
  show bicall .sum [.list _] = _
  have e : (((List.range m).filter fun k => p.testBit k).map fun k => PyData.int (w.getD k 0)) = (((List.range m).filter fun k => p.testBit k).map fun k => w.getD k 0).map PyData.int := by
    rw [List.map_map]
    rfl
  rw [e, sum_list]
  rfl
theorem enum_ints : ∀ (T : List Int) (j : Nat), enumL j (T.map .int) = (List.range T.length).map fun p : Nat => PyData.tuple [.int ((p + j : Nat) : Int), .int (T.getD p 0)]
  | [], j => rfl
  | x :: T, j => by
    show PyData.tuple [.int (j : Int), .int x] :: enumL (j + 1) (T.map .int) = _
    rw [enum_ints T (j + 1), List.length_cons, List.range_succ_eq_map, List.map_cons, List.map_map]
    congr 1
    · simp
    · refine List.map_congr_left fun p _ => ?_
      show PyData.tuple [.int ((p + (j + 1) : Nat) : Int), .int (T.getD p 0)] = PyData.tuple [.int ((p + 1 + j : Nat) : Int), .int ((x :: T).getD (p + 1) 0)]
      rw [show p + (j + 1) = p + 1 + j by omega]
      rfl
theorem iter_enum (T : List Int) (t : Bool) : iterate .enumerate [seqD t T] = .ok ((List.range T.length).map fun p : Nat => PyData.tuple [.int (p : Int), .int (T.getD p 0)]) := by
  have e := enum_ints T 0
  cases t with
  | true =>
    show R.ok (enumL 0 (T.map .int)) = _
    rw [e]
    rfl
  | false =>
    show R.ok (enumL 0 (T.map .int)) = _
    rw [e]
    rfl
end
/-! ### terms, by their parts -/
section
variable {Z : Sem0} {δ : Env} {a b c : Tm} {x y z : D} {k : Bool}
theorem ev_ite (h : (ev Z c δ).bind truth = .ok k) : ev Z (.ite c a b) δ = if k = true then ev Z a δ else ev Z b δ := by
  have e1 : ev Z (.ite c a b) δ = ((ev Z c δ).bind truth).bind fun k => if k = true then ev Z a δ else ev Z b δ := by
    show (R.bind (ev Z c δ) fun x => (truth x).bind _) = _
    cases ev Z c δ with
    | ok a => rfl
    | exc c => rfl
    | bad => rfl
  rw [e1, h]
theorem tr_of (h : ev Z c δ = .ok (.bool k)) : (ev Z c δ).bind truth = .ok k := by rw [h]; rfl
theorem tr_ofI {i : Int} (h : ev Z c δ = .ok (.int i)) : (ev Z c δ).bind truth = .ok (i != 0) := by rw [h]; rfl
theorem ev_cmp {op : CmpOp} (h1 : ev Z a δ = .ok x) (h2 : ev Z b δ = .ok y) (h : cmpop op x y = .ok k) : ev Z (.cmp op a b) δ = .ok (.bool k) := by
  show (R.bind (ev Z a δ) fun x => (ev Z b δ).bind fun y => (cmpop op x y).bind fun k => R.ok (PyData.bool k)) = _
  rw [h1, h2]
  show (R.bind (cmpop op x y) _) = _
  rw [h]
theorem ev_bin {op : Operator} (h1 : ev Z a δ = .ok x) (h2 : ev Z b δ = .ok y) : ev Z (.bin op a b) δ = binop op x y := by
  show (R.bind (ev Z a δ) fun x => (ev Z b δ).bind fun y => binop op x y) = _
  rw [h1, h2]
theorem ev_ix (h1 : ev Z a δ = .ok x) (h2 : ev Z b δ = .ok y) : ev Z (.ix a b) δ = index x y := by
  show (R.bind (ev Z a δ) fun x => (ev Z b δ).bind fun y => index x y) = _
  rw [h1, h2]
theorem ev_not (h : (ev Z a δ).bind truth = .ok k) : ev Z (.not a) δ = .ok (.bool (!k)) := by
  have e1 : ev Z (.not a) δ = ((ev Z a δ).bind truth).bind fun k => R.ok (PyData.bool (!k)) := by
    show (R.bind (ev Z a δ) fun x => (truth x).bind _) = _
    cases ev Z a δ with
    | ok a => rfl
    | exc c => rfl
    | bad => rfl
  rw [e1, h]
theorem ev_bop {u : Bool} (h : ev Z a δ = .ok x) (ht : truth x = .ok k) : ev Z (.bop u a b) δ = if k = u then ev Z b δ else .ok x := by
  show (R.bind (ev Z a δ) fun x => (truth x).bind fun k => if k = u then ev Z b δ else R.ok x) = _
  rw [h]
  show (R.bind (truth x) _) = _
  rw [ht]
theorem ev_bi {f : Bi} {ds : List D} (h : evs Z a δ = .ok ds) : ev Z (.bi f a) δ = bicall f ds := by
  show (R.bind (evs Z a δ) fun ds => bicall f ds) = _
  rw [h]
theorem ev_call {f j : Nat} {ds : List D} (h : evs Z a δ = .ok ds) : ev Z (.call f a j) δ = Z.call f (ds ++ (Z.dflt f).drop j) := by
  show (R.bind (evs Z a δ) fun ds => Z.call f (ds ++ (Z.dflt f).drop j)) = _
  rw [h]
theorem ev_tup {ds : List D} (h : evs Z a δ = .ok ds) : ev Z (.tup a) δ = .ok (.tuple ds) := by
  show (R.bind (evs Z a δ) _) = _
  rw [h]
theorem evs_cons {ds : List D} (h : ev Z a δ = .ok x) (h2 : evs Z b δ = .ok ds) : evs Z (.cons a b) δ = .ok (x :: ds) := by
  show (R.bind (ev Z a δ) fun x => (evs Z b δ).bind fun xs => R.ok (x :: xs)) = _
  rw [h, h2]
theorem evs_nil : evs Z .nil δ = .ok [] := rfl
theorem ev_var {i : Nat} (h : envGet δ i = .ok x) : ev Z (.var i) δ = .ok x := h
end
theorem ne_int (a b : Int) : cmpop .NotEq (.int a) (.int b) = .ok (!decide (a = b)) := rfl
theorem eq_int (a b : Int) : cmpop .Eq (.int a) (.int b) = .ok (decide (a = b)) := rfl
theorem filter_tt {α : Type} (l : List α) : l.filter (fun _ => true) = l := List.filter_eq_self.mpr fun _ _ => rfl
section
variable {Z : Sem0} {δ : Env} {c e : Tm} {a b : Sm}
theorem ite_t (h : (ev Z c δ).bind truth = .ok true) : ex Z (.ite c a b) δ = ex Z a δ := (ite_ok h).trans (if_pos rfl)
theorem ite_f (h : (ev Z c δ).bind truth = .ok false) : ex Z (.ite c a b) δ = ex Z b δ := (ite_ok h).trans (if_neg Bool.false_ne_true)
theorem ex_nil : ex Z .nil δ = .ok (.nx δ) := rfl
theorem aug_ok {i : Nat} {op : Operator} {x y z : D} (h1 : envGet δ i = .ok x) (h2 : ev Z e δ = .ok y) (h3 : augop op x y = .ok z) : ex Z (.aug i op e) δ = .ok (.nx (δ.set i (some z))) := by
  show (R.bind (envGet δ i) fun x => (ev Z e δ).bind fun y => (augop op x y).bind fun z => R.ok (Out.nx (δ.set i (some z)))) = _
  rw [h1, h2]
  show (R.bind (augop op x y) _) = _
  rw [h3]
theorem app_ok {i : Nat} {xs : List D} {y : D} (h1 : envGet δ i = .ok (.list xs)) (h2 : ev Z e δ = .ok y) (h3 : xs.length < LN) : ex Z (.app i e) δ = .ok (.nx (δ.set i (some (.list (xs ++ [y]))))) := by
  show (R.bind (envGet δ i) fun x => (ev Z e δ).bind fun y => _) = _
  rw [h1, h2]
  exact if_pos h3
end
theorem bind_at {α β : Type} {x : R α} {a : α} {f : α → R β} (h : x = .ok a) : x.bind f = f a := by rw [h]
theorem exPars_ok {Z : Sem0} {δ δ' : Env} {e : Tm} {is : List Nat} {ds : List D} (h : evs Z e δ = .ok ds) (h2 : setAll is ds δ = some δ') : ex Z (.pars is e) δ = .ok (.nx δ') := by
  show (R.bind (evs Z e δ) fun ds => match setAll is ds δ with | some δ' => R.ok (Out.nx δ') | none => .bad) = _
  rw [h]
  dsimp only [R.bind]
  rw [h2]
theorem exSets_ok {Z : Sem0} {δ δ' : Env} {e : Tm} {is : List Nat} {ds : List D} (h : ev Z e δ = .ok (.tuple ds)) (h2 : setAll is ds δ = some δ') : ex Z (.sets is e) δ = .ok (.nx δ') := by
  show (R.bind (ev Z e δ) fun d => (bindTg (.tup is) d δ).bind fun δ' => R.ok (Out.nx δ')) = _
  rw [h]
  show (R.bind (match setAll is ds δ with | some δ' => R.ok δ' | none => .bad) _) = _
  rw [h2]
theorem ev_rep {Z : Sem0} {δ : Env} {a b : Tm} {ds : List D} {y : D} (h1 : evs Z a δ = .ok ds) (h2 : ev Z b δ = .ok y) : ev Z (.rep a b) δ = repL ds y := by
  show (R.bind (evs Z a δ) fun ds => (ev Z b δ).bind fun y => repL ds y) = _
  rw [h1, h2]
theorem repL_int {ds : List D} {m : Nat} (h : m ≤ 1000000) (h2 : ds.length ≤ 8) : repL ds (.int m) = .ok (.list (List.replicate m ds).flatten) := by
  unfold repL
  dsimp only
  have h3 : ds.length * m ≤ 8 * 1000000 := Nat.mul_le_mul h2 h
  rw [if_pos (by simp only [Bool.and_eq_true, decide_eq_true_eq]; have : LN = 16777216 := rfl; rw [Int.toNat_natCast]; omega), Int.toNat_natCast]
/-- a loop, its environments told by what has been done -/
theorem loopL_pre {α : Type} {tg : Tg} {b : Env → R Out} {emb : α → D} {Q : List α → Env → Prop} {xs : List α} : ∀ {post pre : List α} {δ : Env}, xs = pre ++ post → Q pre δ → (∀ pre a post δ, xs = pre ++ a :: post → Q pre δ → ∃ δ', (bindTg tg (emb a) δ).bind b = .ok (.nx δ') ∧ Q (pre ++ [a]) δ') →
    ∃ δ', loopL tg b (post.map emb) δ = .ok (.nx δ') ∧ Q xs δ'
  | [], pre, δ, e, hp, _ => ⟨δ, rfl, by rw [e, List.append_nil]; exact hp⟩
  | a :: post, pre, δ, e, hp, h => by
    obtain ⟨δ1, h1, h2⟩ := h pre a post δ e hp
    obtain ⟨δ2, e2, q2⟩ := loopL_pre (tg := tg) (b := b) (emb := emb) (Q := Q) (xs := xs) (post := post) (pre := pre ++ [a]) (by rw [e, List.append_assoc]; rfl) h2 h
    refine ⟨δ2, ?_, q2⟩
    have e1 : loopL tg b ((a :: post).map emb) δ = ((bindTg tg (emb a) δ).bind b).bind fun o => match o with
        | .nx δ2 => loopL tg b (post.map emb) δ2
        | .ct δ2 => loopL tg b (post.map emb) δ2
        | .bk δ2 => .ok (.nx δ2)
        | .rt d => .ok (.rt d) := by
      show (R.bind (bindTg tg (emb a) δ) _) = _
      cases bindTg tg (emb a) δ with
      | ok a => rfl
      | exc c => rfl
      | bad => rfl
    rw [e1, h1]
    exact e2
theorem loop_pre {α : Type} {Z : Sem0} {δ : Env} {it : Tm} {tg : Tg} {k : Itk} {as : List D} {b : Sm} {emb : α → D} {Q : List α → Env → Prop} {xs : List α} (hi : evs Z it δ = .ok as) (hk : iterate k as = .ok (xs.map emb)) (hp : Q [] δ)
    (h : ∀ pre a post δ, xs = pre ++ a :: post → Q pre δ → ∃ δ', ((bindTg tg (emb a) δ).bind fun δ' => ex Z b δ') = .ok (.nx δ') ∧ Q (pre ++ [a]) δ') : ∃ δ', ex Z (.loop tg k it b) δ = .ok (.nx δ') ∧ Q xs δ' := by
  obtain ⟨δ', h1, h2⟩ := loopL_pre (tg := tg) (b := fun δ' => ex Z b δ') (xs := xs) (post := xs) (pre := []) rfl hp h
  refine ⟨δ', ?_, h2⟩
  show (R.bind (evs Z it δ) fun as => (iterate k as).bind fun ds => loopL tg (fun δ' => ex Z b δ') ds δ) = _
  rw [hi]
  show (R.bind (iterate k as) _) = _
  rw [hk]
  exact h1
theorem shl_one {m : Nat} (h : m ≤ 1000000) : binop .LShift (.int 1) (.int m) = .ok (.int ((2 ^ m : Nat) : Int)) := by
  show (if decide (0 ≤ (m : Int)) && decide ((m : Int) ≤ 1000000) && decide ((1 : Int).natAbs < 18446744073709551616) then R.ok (PyData.int (1 * 2 ^ (m : Int).toNat)) else .bad) = _
  rw [if_pos]
  · rw [Int.toNat_natCast, Int.one_mul, Int.natCast_pow]
    rfl
  · simp only [Bool.and_eq_true, decide_eq_true_eq]
    refine ⟨⟨by omega, by omega⟩, by decide⟩
theorem len_tup {xs : List D} : bicall .len [.tuple xs] = .ok (.int xs.length) := rfl
theorem len_list {xs : List D} : bicall .len [.list xs] = .ok (.int xs.length) := rfl
theorem evs1 {Z : Sem0} {δ : Env} {a : Tm} {x : D} (h : ev Z a δ = .ok x) : evs Z (.cons a .nil) δ = .ok [x] := evs_cons h rfl
theorem evs2 {Z : Sem0} {δ : Env} {a b : Tm} {x y : D} (h : ev Z a δ = .ok x) (h2 : ev Z b δ = .ok y) : evs Z (.cons a (.cons b .nil)) δ = .ok [x, y] := evs_cons h (evs1 h2)
theorem cmp_lt {Z : Sem0} {δ : Env} {a b : Tm} {i j : Int} (h1 : ev Z a δ = .ok (.int i)) (h2 : ev Z b δ = .ok (.int j)) : ev Z (.cmp .Lt a b) δ = .ok (.bool (decide (i < j))) := ev_cmp h1 h2 rfl
theorem cmp_le {Z : Sem0} {δ : Env} {a b : Tm} {i j : Int} (h1 : ev Z a δ = .ok (.int i)) (h2 : ev Z b δ = .ok (.int j)) : ev Z (.cmp .LtE a b) δ = .ok (.bool (decide (i ≤ j))) := ev_cmp h1 h2 rfl
theorem cmp_gt {Z : Sem0} {δ : Env} {a b : Tm} {i j : Int} (h1 : ev Z a δ = .ok (.int i)) (h2 : ev Z b δ = .ok (.int j)) : ev Z (.cmp .Gt a b) δ = .ok (.bool (decide (j < i))) := ev_cmp h1 h2 rfl
theorem cmp_ge {Z : Sem0} {δ : Env} {a b : Tm} {i j : Int} (h1 : ev Z a δ = .ok (.int i)) (h2 : ev Z b δ = .ok (.int j)) : ev Z (.cmp .GtE a b) δ = .ok (.bool (decide (j ≤ i))) := ev_cmp h1 h2 rfl
theorem cmp_eq {Z : Sem0} {δ : Env} {a b : Tm} {i j : Int} (h1 : ev Z a δ = .ok (.int i)) (h2 : ev Z b δ = .ok (.int j)) : ev Z (.cmp .Eq a b) δ = .ok (.bool (decide (i = j))) := ev_cmp h1 h2 rfl
theorem cmp_ne {Z : Sem0} {δ : Env} {a b : Tm} {i j : Int} (h1 : ev Z a δ = .ok (.int i)) (h2 : ev Z b δ = .ok (.int j)) : ev Z (.cmp .NotEq a b) δ = .ok (.bool (!decide (i = j))) := ev_cmp h1 h2 rfl
/-- and, or of tests -/
theorem ev_and {Z : Sem0} {δ : Env} {a b : Tm} {k l : Bool} (h1 : ev Z a δ = .ok (.bool k)) (h2 : k = true → ev Z b δ = .ok (.bool l)) : ev Z (.bop true a b) δ = .ok (.bool (k && l)) := by
  rw [ev_bop h1 rfl]
  cases k with
  | true => rw [if_pos rfl]; exact h2 rfl
  | false => rw [if_neg Bool.false_ne_true]; rfl
theorem ev_or {Z : Sem0} {δ : Env} {a b : Tm} {k l : Bool} (h1 : ev Z a δ = .ok (.bool k)) (h2 : k = false → ev Z b δ = .ok (.bool l)) : ev Z (.bop false a b) δ = .ok (.bool (k || l)) := by
  rw [ev_bop h1 rfl]
  cases k with
  | true => rw [if_neg (by decide)]; rfl
  | false => rw [if_pos rfl]; exact h2 rfl
theorem ev_b {Z : Sem0} {δ : Env} {a : Tm} {f : Bi} {ds : List D} {r : R D} (h : evs Z a δ = .ok ds) (hb : bicall f ds = r) : ev Z (.bi f a) δ = r := (ev_bi h).trans hb
theorem ev_c {Z : Sem0} {δ : Env} {a : Tm} {f j : Nat} {ds : List D} {r : R D} (h : evs Z a δ = .ok ds) (hb : Z.call f (ds ++ (Z.dflt f).drop j) = r) : ev Z (.call f a j) δ = r := (ev_call h).trans hb
end EV

set_option Elab.async false
set_option linter.all false
set_option maxRecDepth 100000
set_option maxHeartbeats 2000000
/-! k27, the plain law: tables, letters. -/
namespace Lk27
open PySem EV
abbrev Zn (n : Nat) : Sem0 := ⟨fun _ => .bad, dfltOf ds, callN (fun _ => .bad) (dfltOf ds) (ds.map Dd.fn) n⟩
abbrev cl (n f : Nat) (as : List EV.D) : EV.R EV.D := callN (fun _ => .bad) (dfltOf ds) (ds.map Dd.fn) n f as
theorem whole0 (n : Nat) (i : Int) : cl (n + 1) 0 [.int i, .none] = .ok (.bool true) := rfl
theorem whole1 (n : Nat) (i j : Int) : cl (n + 1) 0 [.int i, .int j] = .ok (.bool (decide (j ≤ i))) := rfl
/-- a table's datum -/
abbrev tab (T : List Int) : EV.D := .tuple (T.map .int)
structure IsT (m : Nat) (T : List Int) : Prop where
  m4 : m ≤ 4
  len : T.length = 2 ^ m
  bit : ∀ t ∈ T, t = 0 ∨ t = 1
theorem is_table {m : Nat} {T : List Int} (h : IsT m T) (n : Nat) : cl (n + 2) 1 [tab T] = .ok (.bool true) := by
  refine run_rt (Z := Zn (n + 1)) (f := f1) (δ := [some (tab T), none]) rfl rfl ?_
  have hc : (ev (Zn (n + 1)) (.bop false (.not (.isi .tuple (.var 0))) (.cmp .NotIn (.bi .len (.cons (.var 0) .nil)) (.tup (.cons (.con (.int 1)) (.cons (.con (.int 2)) (.cons (.con (.int 4)) (.cons (.con (.int 8)) (.cons (.con (.int 16)) (.cons (.con (.int 32)) .nil))))))))) [some (tab T), none]).bind truth = .ok false := by
    have e : ((T.map PyData.int).length : Int) = 2 ^ m := by rw [List.length_map, h.len]; rfl
    show ((cmpop .NotIn (.int (T.map PyData.int).length) (.tuple [.int 1, .int 2, .int 4, .int 8, .int 16, .int 32])).bind fun k => R.ok (PyData.bool k)).bind truth = _
    rw [e]
    have := h.m4
    match m, this with
    | 0, _ => rfl
    | 1, _ => rfl
    | 2, _ => rfl
    | 3, _ => rfl
    | 4, _ => rfl
  refine (seq_nx (δ' := [some (tab T), none]) ?_).trans (seq_out (ret_ok ?_) (fun _ z => nomatch z))
  · refine (ite_ok hc).trans rfl
  · refine (gen_all (xs := T) (emb := .int) (b := fun _ => true) (as := [tab T]) rfl rfl fun x hx => ?_).trans (by simp)
    rcases h.bit x hx with rfl | rfl <;> rfl
theorem check_table {m : Nat} {T : List Int} (h : IsT m T) (n : Nat) : cl (n + 3) 2 [tab T] = .ok .none := by
  refine run_nx (Z := Zn (n + 2)) (f := f2) (δ := [some (tab T)]) (δ' := [some (tab T)]) rfl rfl ?_
  refine (seq_nx (δ' := [some (tab T)]) ?_).trans rfl
  refine (ite_ok (k := false) ?_).trans rfl
  show ((cl (n + 2) 1 [tab T]).bind _).bind truth = _
  rw [is_table h]
  rfl
theorem letters {m : Nat} {T : List Int} (h : IsT m T) (n : Nat) : cl (n + 4) 3 [tab T] = .ok (.int m) := by
  refine run_rt (Z := Zn (n + 3)) (f := f3) (δ := [some (tab T)]) rfl rfl ?_
  refine (seq_nx (δ' := [some (tab T)]) (drop_ok (d := .none) ?_)).trans (seq_out (ret_ok ?_) (fun _ z => nomatch z))
  · exact check_table h n
  · have e : ((T.map PyData.int).length : Int) = 2 ^ m := by rw [List.length_map, h.len]; rfl
    show R.ok (PyData.int (Builtin.Int.intBits ((T.map PyData.int).length : Int) - 1)) = _
    rw [e]
    have := h.m4
    match m, this with
    | 0, _ => rfl
    | 1, _ => rfl
    | 2, _ => rfl
    | 3, _ => rfl
    | 4, _ => rfl
end Lk27

set_option Elab.async false
set_option linter.all false
set_option maxRecDepth 100000
set_option maxHeartbeats 2000000
/-! k27, the plain law: learning. -/
namespace Lk27
open PySem EV
def told (w : List Int) (b : Int) (m p : Nat) : Int := if b ≤ dot w m p then 1 else 0
structure PS where
  w : List Int
  b : Int
  c : Int
def upd1 (m : Nat) (T : List Int) (s : PS) (p : Nat) : PS :=
  if told s.w s.b m p = T.getD p 0 then s
  else ⟨(List.range m).map (fun k => s.w.getD k 0 + if p.testBit k then T.getD p 0 - told s.w s.b m p else 0), s.b - (T.getD p 0 - told s.w s.b m p), s.c + 1⟩
def round (m : Nat) (T : List Int) (s : PS) : PS := (List.range T.length).foldl (upd1 m T) s
def learn (m : Nat) (T : List Int) (n : Nat) (s : PS) : PS := iterB (fun s (_ : Nat) => round m T s) (fun s s' => decide (s'.c = s.c)) (List.range n) s
def ps0 (m : Nat) : PS := ⟨List.replicate m 0, 0, 0⟩
theorem upd1_len {m : Nat} {T : List Int} {s : PS} {p : Nat} (h : s.w.length = m) : (upd1 m T s p).w.length = m := by
  unfold upd1
  split
  · exact h
  · simp
theorem round_len {m : Nat} {T : List Int} {s : PS} (h : s.w.length = m) : (round m T s).w.length = m := by
  unfold round
  generalize List.range T.length = L
  induction L generalizing s with
  | nil => exact h
  | cons p L ih => exact ih (upd1_len h)
abbrev E10 (T : List Int) (r m : Nat) (s : PS) (x3 x7 x8 x9 x10 x11 : Option EV.D) : EV.Env := [some (tab T), some (.int r), some (.int m), x3, some (seqD false s.w), some (.int s.b), some (.int s.c), x7, x8, x9, x10, x11, none]
theorem told_ev {Z : Sem0} {δ : EV.Env} {t : Bool} {w : List Int} {b : Int} {m p a im ip k ib : Nat} (hw : envGet δ a = .ok (seqD t w)) (hm : envGet δ im = .ok (.int m)) (hp : envGet δ ip = .ok (.int p)) (hb : envGet δ ib = .ok (.int b)) (hl : w.length = m) (hm2 : m ≤ 16777216) (ha : k ≠ a) (hi : k ≠ ip) (hk : k < δ.length) :
    ev Z (.cmp .GtE (.bi .sum (.cons (.comp (.one k) .range (.cons (.var im) .nil) (.bin .BitAnd (.bin .RShift (.var ip) (.var k)) (.con (.int 1))) (.ix (.var a) (.var k))) .nil)) (.var ib)) δ = .ok (.bool (decide (b ≤ dot w m p))) := ev_cmp (ev_dot hw hm hp hl hm2 ha hi hk) hb rfl
theorem told_ev2 {Z : Sem0} {δ : EV.Env} {t : Bool} {w : List Int} {b : Int} {m p a im ip k ib : Nat} (hw : envGet δ a = .ok (seqD t w)) (hm : envGet δ im = .ok (.int m)) (hp : envGet δ ip = .ok (.int p)) (hb : envGet δ ib = .ok (.int b)) (hl : w.length = m) (hm2 : m ≤ 16777216) (ha : k ≠ a) (hi : k ≠ ip) (hk : k < δ.length) :
    ev Z (.ite (.cmp .GtE (.bi .sum (.cons (.comp (.one k) .range (.cons (.var im) .nil) (.bin .BitAnd (.bin .RShift (.var ip) (.var k)) (.con (.int 1))) (.ix (.var a) (.var k))) .nil)) (.var ib)) (.con (.int 1)) (.con (.int 0))) δ = .ok (.int (told w b m p)) := by
  rw [ev_ite (tr_of (told_ev hw hm hp hb hl hm2 ha hi hk))]
  unfold told
  by_cases h : b ≤ dot w m p
  · rw [if_pos h, decide_eq_true h]; rfl
  · rw [if_neg h, decide_eq_false h]; rfl
/-- the new weights -/
theorem step_ev {Z : Sem0} {δ : EV.Env} {w : List Int} {m p a im ip k ist : Nat} {st : Int} (hw : envGet δ a = .ok (seqD false w)) (hm : envGet δ im = .ok (.int m)) (hp : envGet δ ip = .ok (.int p)) (hs : envGet δ ist = .ok (.int st)) (hl : w.length = m) (hm2 : m ≤ 16777216) (ha : k ≠ a) (hi : k ≠ ip) (hi2 : k ≠ ist) (hk : k < δ.length) :
    ev Z (.comp (.one k) .range (.cons (.var im) .nil) (.con (.bool true)) (.bin .Add (.ix (.var a) (.var k)) (.ite (.bin .BitAnd (.bin .RShift (.var ip) (.var k)) (.con (.int 1))) (.var ist) (.con (.int 0))))) δ = .ok (seqD false ((List.range m).map fun k => w.getD k 0 + if p.testBit k then st else 0)) := by
  refine (comp_plain (as := [.int m]) (emb := fun i : Nat => PyData.int i) (b := fun _ => true) (g := fun k => PyData.int (w.getD k 0 + if p.testBit k then st else 0)) (evs_cons (ev_var hm) evs_nil) (iter_range hm2) (fun x hx => rfl) (fun x hx _ => ?_)).trans ?_
  · refine (ev_bin (x := .int (w.getD x 0)) (y := .int (if p.testBit x then st else 0)) ?_ ?_).trans rfl
    · exact (ev_ix (ev_var (get_set_ne hw ha)) (ev_var (get_set_eq hk))).trans (index_seq (by rw [hl]; exact List.mem_range.mp hx))
    · have e := ev_bit (Z := Z) (p := p) (k := x) (get_set_ne hp hi) (get_set_eq hk)
      rw [ev_ite (k := p.testBit x) (by rw [e]; exact truth_bit _)]
      cases p.testBit x with
      | true => exact get_set_ne hs hi2
      | false => rfl
  · rw [filter_tt]
    show R.ok (PyData.list _) = R.ok (PyData.list (((List.range m).map _).map PyData.int))
    rw [List.map_map]
    rfl
theorem inner {T : List Int} {r m : Nat} {s : PS} {x3 x7 x8 x9 x10 x11 : Option EV.D} {Z : Sem0} (hm : m ≤ 4) (hl : s.w.length = m) : ∃ y8 y9 y10 y11, ex Z (.loop (.tup [8, 9]) .enumerate (.cons (.var 0) .nil) (.seq (.set 10 (.ite (.cmp .GtE (.bi .sum (.cons (.comp (.one 12) .range (.cons (.var 2) .nil) (.bin .BitAnd (.bin .RShift (.var 8) (.var 12)) (.con (.int 1))) (.ix (.var 4) (.var 12))) .nil)) (.var 5)) (.con (.int 1)) (.con (.int 0)))) (.seq (.ite (.cmp .NotEq (.var 10) (.var 9)) (.seq (.aug 6 .Add (.con (.int 1))) (.seq (.set 11 (.bin .Sub (.var 9) (.var 10))) (.seq (.fresh 4 (.comp (.one 12) .range (.cons (.var 2) .nil) (.con (.bool true)) (.bin .Add (.ix (.var 4) (.var 12)) (.ite (.bin .BitAnd (.bin .RShift (.var 8) (.var 12)) (.con (.int 1))) (.var 11) (.con (.int 0)))))) (.seq (.aug 5 .Sub (.var 11)) .nil)))) .nil) .nil))) (E10 T r m s x3 x7 x8 x9 x10 x11) = .ok (.nx (E10 T r m (round m T s) x3 x7 y8 y9 y10 y11)) := by
  have main := loop_rel (Z := Z) (δ := E10 T r m s x3 x7 x8 x9 x10 x11) (it := .cons (.var 0) .nil) (tg := .tup [8, 9]) (k := .enumerate) (as := [seqD true T])
    (b := (.seq (.set 10 (.ite (.cmp .GtE (.bi .sum (.cons (.comp (.one 12) .range (.cons (.var 2) .nil) (.bin .BitAnd (.bin .RShift (.var 8) (.var 12)) (.con (.int 1))) (.ix (.var 4) (.var 12))) .nil)) (.var 5)) (.con (.int 1)) (.con (.int 0)))) (.seq (.ite (.cmp .NotEq (.var 10) (.var 9)) (.seq (.aug 6 .Add (.con (.int 1))) (.seq (.set 11 (.bin .Sub (.var 9) (.var 10))) (.seq (.fresh 4 (.comp (.one 12) .range (.cons (.var 2) .nil) (.con (.bool true)) (.bin .Add (.ix (.var 4) (.var 12)) (.ite (.bin .BitAnd (.bin .RShift (.var 8) (.var 12)) (.con (.int 1))) (.var 11) (.con (.int 0)))))) (.seq (.aug 5 .Sub (.var 11)) .nil)))) .nil) .nil)))
    (Q := fun s δ => s.w.length = m ∧ ∃ x8 x9 x10 x11, δ = E10 T r m s x3 x7 x8 x9 x10 x11) (step := upd1 m T) (s := s) rfl (iter_enum T true) ⟨hl, _, _, _, _, rfl⟩ (fun s δ p hq hp => ?_)
  · obtain ⟨δ', h1, _, a, b, c, d, rfl⟩ := main
    exact ⟨a, b, c, d, h1⟩
  · obtain ⟨hl, x8, x9, x10, x11, rfl⟩ := hq
    have hb : bindTg (.tup [8, 9]) (.tuple [.int (p : Int), .int (T.getD p 0)]) (E10 T r m s x3 x7 x8 x9 x10 x11) = .ok (E10 T r m s x3 x7 (some (.int p)) (some (.int (T.getD p 0))) x10 x11) := rfl
    have ht := told_ev2 (Z := Z) (δ := E10 T r m s x3 x7 (some (.int p)) (some (.int (T.getD p 0))) x10 x11) (t := false) (w := s.w) (b := s.b) (m := m) (p := p) (a := 4) (im := 2) (ip := 8) (k := 12) (ib := 5) rfl rfl rfl rfl hl (by omega) (by decide) (by decide) (Nat.lt_succ_self 12)
    have hn : ev Z (.cmp .NotEq (.var 10) (.var 9)) (E10 T r m s x3 x7 (some (.int p)) (some (.int (T.getD p 0))) (some (.int (told s.w s.b m p))) x11) = .ok (.bool (!decide (told s.w s.b m p = T.getD p 0))) := ev_cmp (x := .int (told s.w s.b m p)) (y := .int (T.getD p 0)) rfl rfl (ne_int _ _)
    by_cases e : told s.w s.b m p = T.getD p 0
    · rw [decide_eq_true e] at hn
      refine ⟨E10 T r m s x3 x7 (some (.int p)) (some (.int (T.getD p 0))) (some (.int (told s.w s.b m p))) x11, ?_, upd1_len hl, some (.int p), some (.int (T.getD p 0)), some (.int (told s.w s.b m p)), x11, ?_⟩
      · refine (bind_at hb).trans ?_
        refine (seq_nx (set_ok ht)).trans ?_
        exact (seq_nx (δ' := E10 T r m s x3 x7 (some (.int p)) (some (.int (T.getD p 0))) (some (.int (told s.w s.b m p))) x11) ((ite_f (tr_of hn)).trans ex_nil)).trans ex_nil
      · unfold upd1
        rw [if_pos e]
    · rw [decide_eq_false e] at hn
      have hs : upd1 m T s p = ⟨(List.range m).map (fun k => s.w.getD k 0 + if p.testBit k then T.getD p 0 - told s.w s.b m p else 0), s.b - (T.getD p 0 - told s.w s.b m p), s.c + 1⟩ := if_neg e
      refine ⟨E10 T r m (upd1 m T s p) x3 x7 (some (.int p)) (some (.int (T.getD p 0))) (some (.int (told s.w s.b m p))) (some (.int (T.getD p 0 - told s.w s.b m p))), ?_, upd1_len hl, some (.int p), some (.int (T.getD p 0)), some (.int (told s.w s.b m p)), some (.int (T.getD p 0 - told s.w s.b m p)), rfl⟩
      refine (bind_at hb).trans ?_
      refine (seq_nx (set_ok ht)).trans ?_
      refine (seq_nx (δ' := E10 T r m (upd1 m T s p) x3 x7 (some (.int p)) (some (.int (T.getD p 0))) (some (.int (told s.w s.b m p))) (some (.int (T.getD p 0 - told s.w s.b m p)))) ((ite_t (tr_of hn)).trans ?_)).trans ex_nil
      rw [hs]
      have hc := step_ev (Z := Z) (δ := E10 T r m ⟨s.w, s.b, s.c + 1⟩ x3 x7 (some (.int p)) (some (.int (T.getD p 0))) (some (.int (told s.w s.b m p))) (some (.int (T.getD p 0 - told s.w s.b m p)))) (w := s.w) (m := m) (p := p) (a := 4) (im := 2) (ip := 8) (k := 12) (ist := 11) (st := T.getD p 0 - told s.w s.b m p) rfl rfl rfl rfl hl (by omega) (by decide) (by decide) (by decide) (Nat.lt_succ_self 12)
      refine (seq_nx (δ' := E10 T r m ⟨s.w, s.b, s.c + 1⟩ x3 x7 (some (.int p)) (some (.int (T.getD p 0))) (some (.int (told s.w s.b m p))) x11) (aug_ok rfl rfl rfl)).trans ?_
      refine (seq_nx (δ' := E10 T r m ⟨s.w, s.b, s.c + 1⟩ x3 x7 (some (.int p)) (some (.int (T.getD p 0))) (some (.int (told s.w s.b m p))) (some (.int (T.getD p 0 - told s.w s.b m p)))) (set_ok (ev_bin (x := .int (T.getD p 0)) (y := .int (told s.w s.b m p)) rfl rfl))).trans ?_
      refine (seq_nx (fresh_ok hc)).trans ?_
      exact (seq_nx (aug_ok rfl rfl rfl)).trans ex_nil
end Lk27

set_option Elab.async false
set_option linter.all false
set_option maxRecDepth 100000
set_option maxHeartbeats 2000000
/-! k27, the plain law: learnt. -/
namespace Lk27
open PySem EV
abbrev ans (s : PS) : EV.D := .tuple [.tuple [.tuple (s.w.map .int), .int s.b], .int s.c]
theorem outer {T : List Int} {r m : Nat} {s : PS} {x3 x7 x8 x9 x10 x11 : Option EV.D} {Z : Sem0} (hm : m ≤ 4) (hl : s.w.length = m) (hr : r ≤ 200) : ∃ y3 y7 y8 y9 y10 y11, ex Z (.loop (.one 3) .range (.cons (.var 1) .nil) (.seq (.set 7 (.var 6)) (.seq (.loop (.tup [8, 9]) .enumerate (.cons (.var 0) .nil) (.seq (.set 10 (.ite (.cmp .GtE (.bi .sum (.cons (.comp (.one 12) .range (.cons (.var 2) .nil) (.bin .BitAnd (.bin .RShift (.var 8) (.var 12)) (.con (.int 1))) (.ix (.var 4) (.var 12))) .nil)) (.var 5)) (.con (.int 1)) (.con (.int 0)))) (.seq (.ite (.cmp .NotEq (.var 10) (.var 9)) (.seq (.aug 6 .Add (.con (.int 1))) (.seq (.set 11 (.bin .Sub (.var 9) (.var 10))) (.seq (.fresh 4 (.comp (.one 12) .range (.cons (.var 2) .nil) (.con (.bool true)) (.bin .Add (.ix (.var 4) (.var 12)) (.ite (.bin .BitAnd (.bin .RShift (.var 8) (.var 12)) (.con (.int 1))) (.var 11) (.con (.int 0)))))) (.seq (.aug 5 .Sub (.var 11)) .nil)))) .nil) .nil))) (.seq (.ite (.cmp .Eq (.var 6) (.var 7)) (.seq .brk .nil) .nil) .nil)))) (E10 T r m s x3 x7 x8 x9 x10 x11) = .ok (.nx (E10 T r m (learn m T r s) y3 y7 y8 y9 y10 y11)) := by
  have main := loop_relB (Z := Z) (δ := E10 T r m s x3 x7 x8 x9 x10 x11) (it := .cons (.var 1) .nil) (tg := .one 3) (k := .range) (as := [.int r]) (emb := fun i : Nat => PyData.int i) (xs := List.range r)
    (b := (.seq (.set 7 (.var 6)) (.seq (.loop (.tup [8, 9]) .enumerate (.cons (.var 0) .nil) (.seq (.set 10 (.ite (.cmp .GtE (.bi .sum (.cons (.comp (.one 12) .range (.cons (.var 2) .nil) (.bin .BitAnd (.bin .RShift (.var 8) (.var 12)) (.con (.int 1))) (.ix (.var 4) (.var 12))) .nil)) (.var 5)) (.con (.int 1)) (.con (.int 0)))) (.seq (.ite (.cmp .NotEq (.var 10) (.var 9)) (.seq (.aug 6 .Add (.con (.int 1))) (.seq (.set 11 (.bin .Sub (.var 9) (.var 10))) (.seq (.fresh 4 (.comp (.one 12) .range (.cons (.var 2) .nil) (.con (.bool true)) (.bin .Add (.ix (.var 4) (.var 12)) (.ite (.bin .BitAnd (.bin .RShift (.var 8) (.var 12)) (.con (.int 1))) (.var 11) (.con (.int 0)))))) (.seq (.aug 5 .Sub (.var 11)) .nil)))) .nil) .nil))) (.seq (.ite (.cmp .Eq (.var 6) (.var 7)) (.seq .brk .nil) .nil) .nil))))
    (Q := fun s δ => s.w.length = m ∧ ∃ x3 x7 x8 x9 x10 x11, δ = E10 T r m s x3 x7 x8 x9 x10 x11) (step := fun s (_ : Nat) => round m T s) (stop := fun s s' => decide (s'.c = s.c)) (s := s) rfl (iter_range (by omega)) ⟨hl, x3, x7, x8, x9, x10, x11, rfl⟩ (fun s δ p hq hp => ?_)
  · obtain ⟨δ', h1, _, a, b, c, d, e, f, rfl⟩ := main
    exact ⟨a, b, c, d, e, f, h1⟩
  · obtain ⟨hl, x3, x7, x8, x9, x10, x11, rfl⟩ := hq
    have hb : bindTg (.one 3) (.int (p : Int)) (E10 T r m s x3 x7 x8 x9 x10 x11) = .ok (E10 T r m s (some (.int p)) x7 x8 x9 x10 x11) := rfl
    obtain ⟨y8, y9, y10, y11, hi⟩ := inner (T := T) (r := r) (m := m) (s := s) (x3 := some (.int p)) (x7 := some (.int s.c)) (x8 := x8) (x9 := x9) (x10 := x10) (x11 := x11) (Z := Z) hm hl
    have hq : ev Z (.cmp .Eq (.var 6) (.var 7)) (E10 T r m (round m T s) (some (.int p)) (some (.int s.c)) y8 y9 y10 y11) = .ok (.bool (decide ((round m T s).c = s.c))) := ev_cmp (x := .int (round m T s).c) (y := .int s.c) rfl rfl (eq_int _ _)
    refine ⟨E10 T r m (round m T s) (some (.int p)) (some (.int s.c)) y8 y9 y10 y11, ?_, round_len hl, some (.int p), some (.int s.c), y8, y9, y10, y11, rfl⟩
    refine (bind_at hb).trans ?_
    refine (seq_nx (δ' := E10 T r m s (some (.int p)) (some (.int s.c)) x8 x9 x10 x11) (set_ok rfl)).trans ?_
    refine (seq_nx hi).trans ?_
    by_cases e : (round m T s).c = s.c
    · rw [decide_eq_true e] at hq ⊢
      rw [if_pos rfl]
      refine seq_out ?_ (fun _ z => nomatch z)
      exact (ite_t (tr_of hq)).trans (seq_out rfl (fun _ z => nomatch z))
    · rw [decide_eq_false e] at hq ⊢
      rw [if_neg Bool.false_ne_true]
      exact (seq_nx ((ite_f (tr_of hq)).trans ex_nil)).trans ex_nil
theorem iterB_inv {α S : Type} {step : S → α → S} {stop : S → S → Bool} {P : S → Prop} (h : ∀ s a, P s → P (step s a)) : ∀ (as : List α) {s : S}, P s → P (iterB step stop as s)
  | [], s, hp => hp
  | a :: as, s, hp => by
    unfold iterB
    split
    · exact h s a hp
    · exact iterB_inv h as (h s a hp)
theorem learn_len {m n : Nat} {T : List Int} {s : PS} (h : s.w.length = m) : (learn m T n s).w.length = m := iterB_inv (P := fun s : PS => s.w.length = m) (fun s a hp => round_len hp) _ h
theorem repl_ok : ∀ m : Nat, (List.replicate m [PyData.int 0]).flatten = (List.replicate m (0 : Int)).map PyData.int
  | 0 => rfl
  | m + 1 => by
    rw [List.replicate_succ, List.flatten_cons, repl_ok m, List.replicate_succ]
    rfl
theorem learnt {m : Nat} {T : List Int} (h : IsT m T) {r : Nat} (h1 : 1 ≤ r) (h2 : r ≤ 200) (n : Nat) : cl (n + 5) 10 [tab T, .int r] = .ok (ans (learn m T r (ps0 m))) := by
  have hm := h.m4
  obtain ⟨y3, y7, y8, y9, y10, y11, ho⟩ := outer (T := T) (r := r) (m := m) (s := ps0 m) (x3 := none) (x7 := none) (x8 := none) (x9 := none) (x10 := none) (x11 := none) (Z := Zn (n + 4)) hm (by simp [ps0]) h2
  refine run_rt (Z := Zn (n + 4)) (f := f10) (δ := [some (tab T), some (.int r), none, none, none, none, none, none, none, none, none, none, none]) rfl rfl ?_
  refine (seq_nx (drop_ok (d := .none) ?_)).trans ?_
  · exact (ev_call (ds := [tab T]) rfl).trans (check_table h (n + 1))
  refine (seq_nx (δ' := [some (tab T), some (.int r), none, none, none, none, none, none, none, none, none, none, none]) ((ite_f ?_).trans ex_nil)).trans ?_
  · have w1 : ev (Zn (n + 4)) (.call 0 (.cons (.var 1) (.cons (.con (.int 1)) .nil)) 1) [some (tab T), some (.int r), none, none, none, none, none, none, none, none, none, none, none] = .ok (.bool true) := by
      refine (ev_call (ds := [.int r, .int 1]) rfl).trans ((whole1 (n + 3) r 1).trans ?_)
      rw [decide_eq_true (by omega)]
    have w2 := ev_not (tr_of w1)
    have w3 : ev (Zn (n + 4)) (.cmp .Gt (.var 1) (.con (.int 200))) [some (tab T), some (.int r), none, none, none, none, none, none, none, none, none, none, none] = .ok (.bool false) := ev_cmp (x := .int r) (y := .int 200) rfl rfl (congrArg R.ok (decide_eq_false (by omega)))
    have w4 : ev (Zn (n + 4)) (.bop false (.not (.call 0 (.cons (.var 1) (.cons (.con (.int 1)) .nil)) 1)) (.cmp .Gt (.var 1) (.con (.int 200)))) [some (tab T), some (.int r), none, none, none, none, none, none, none, none, none, none, none] = .ok (.bool false) := by
      rw [ev_bop (k := false) w2 rfl, if_pos rfl]
      exact w3
    exact tr_of w4
  refine (seq_nx (set_ok (d := .int m) ((ev_call (ds := [tab T]) rfl).trans (letters h n)))).trans ?_
  refine (seq_nx (δ' := E10 T r m (ps0 m) none none none none none none) ?_).trans ?_
  · have hrep : ev (Zn (n + 4)) (.rep (.cons (.con (.int 0)) .nil) (.var 2)) [some (tab T), some (.int r), some (.int m), none, none, none, none, none, none, none, none, none, none] = .ok (seqD false (List.replicate m 0)) := by
      refine (ev_rep (ds := [.int 0]) (y := .int m) rfl rfl).trans ((repL_int (by omega) (by decide)).trans ?_)
      exact congrArg (fun l => R.ok (PyData.list l)) (repl_ok m)
    have he : evs (Zn (n + 4)) (.cons (.rep (.cons (.con (.int 0)) .nil) (.var 2)) (.cons (.con (.int 0)) (.cons (.con (.int 0)) .nil))) [some (tab T), some (.int r), some (.int m), none, none, none, none, none, none, none, none, none, none] = .ok [seqD false (List.replicate m 0), .int 0, .int 0] := evs_cons hrep rfl
    exact exPars_ok he rfl
  refine (seq_nx ho).trans ?_
  refine seq_out (ret_ok ?_) (fun _ z => nomatch z)
  rfl
end Lk27

set_option Elab.async false
set_option linter.all false
set_option maxRecDepth 100000
set_option maxHeartbeats 2000000
/-! k27, the plain law: by_weights_of, judge_weights. -/
namespace Lk27
open PySem EV
def ab (i : Int) : Int := if i < 0 then -i else i
def small (w : List Int) (b : Int) : Bool := w.all (fun i => decide (ab i < 100)) && decide (ab b ≤ 999)
def tabOf (w : List Int) (b : Int) (m : Nat) : List Int := (List.range (2 ^ m)).map fun p => told w b m p
theorem small_gen {Z : Sem0} {δ : EV.Env} {it : Tm} {w : List Int} {j : Nat} {n : Nat} (hZ : Z.call = callN (fun _ => .bad) (dfltOf ds) (ds.map Dd.fn) (n + 1)) (hd : Z.dflt = dfltOf ds) (hi : evs Z it δ = .ok [tab w]) (hj : j < δ.length) :
    ev Z (.gen true (.one j) .plain it (.bop true (.call 0 (.cons (.var j) .nil) 0) (.cmp .Lt (.bi .abs (.cons (.var j) .nil)) (.con (.int 100))))) δ = .ok (.bool (w.all fun i => decide (ab i < 100))) := by
  refine (gen_all (xs := w) (emb := .int) (b := fun i => decide (ab i < 100)) hi rfl fun x hx => ?_)
  have hv : ev Z (.var j) (δ.set j (some (.int x))) = .ok (.int x) := ev_var (get_set_eq hj)
  have h1 : ev Z (.call 0 (.cons (.var j) .nil) 0) (δ.set j (some (.int x))) = .ok (.bool true) := by
    refine (ev_call (evs1 hv)).trans ?_
    rw [hZ, hd]
    exact whole0 n x
  have h2 : ev Z (.cmp .Lt (.bi .abs (.cons (.var j) .nil)) (.con (.int 100))) (δ.set j (some (.int x))) = .ok (.bool (decide (ab x < 100))) := cmp_lt ((ev_bi (evs1 hv)).trans rfl) rfl
  rw [ev_and h1 fun _ => h2]
  rfl
theorem by_weights {m : Nat} {w : List Int} {b : Int} (hm : m ≤ 4) (hl : w.length = m) (hs : small w b = true) (n : Nat) : cl (n + 2) 4 [tab w, .int b] = .ok (tab (tabOf w b m)) := by
  unfold small at hs
  rw [Bool.and_eq_true, decide_eq_true_eq] at hs
  have hl2 : (w.map PyData.int).length = m := by rw [List.length_map, hl]
  refine run_rt (Z := Zn (n + 1)) (f := f4) (δ := [some (tab w), some (.int b), none, none, none, none, none]) rfl rfl ?_
  have t1 : ev (Zn (n + 1)) (.bop false (.not (.isi .tuple (.var 0))) (.cmp .Gt (.bi .len (.cons (.var 0) .nil)) (.con (.int 5)))) [some (tab w), some (.int b), none, none, none, none, none] = .ok (.bool (false || decide ((5 : Int) < (w.map PyData.int).length))) :=
    ev_or (ev_not (k := true) rfl) fun _ => cmp_gt (ev_b (evs1 rfl) rfl) rfl
  have t2 := ev_not (tr_of (small_gen (Z := Zn (n + 1)) (δ := [some (tab w), some (.int b), none, none, none, none, none]) (it := .cons (.var 0) .nil) (w := w) (j := 5) (n := n) rfl rfl rfl (by show 5 < 7; decide)))
  have t3 : ev (Zn (n + 1)) (.bop false (.not (.call 0 (.cons (.var 1) .nil) 0)) (.cmp .Gt (.bi .abs (.cons (.var 1) .nil)) (.con (.int 999)))) [some (tab w), some (.int b), none, none, none, none, none] = .ok (.bool (false || decide ((999 : Int) < ab b))) :=
    ev_or (ev_not (k := true) (tr_of (ev_c (ds := [.int b]) (evs1 rfl) (whole0 n b)))) fun _ => cmp_gt (ev_b (evs1 rfl) rfl) rfl
  rw [decide_eq_false (by rw [hl2]; omega)] at t1
  rw [hs.1] at t2
  rw [decide_eq_false (by have := hs.2; omega)] at t3
  refine (seq_nx ((ite_f (tr_of t1)).trans ex_nil)).trans ?_
  refine (seq_nx ((ite_f (tr_of t2)).trans ex_nil)).trans ?_
  refine (seq_nx ((ite_f (tr_of t3)).trans ex_nil)).trans ?_
  refine (seq_nx (set_ok (d := .int m) (ev_b (evs1 rfl) (by rw [len_tup, hl2])))).trans ?_
  refine (seq_nx (δ' := [some (tab w), some (.int b), some (.int m), some (.list []), none, none, none]) (fresh_ok rfl)).trans ?_
  obtain ⟨δ', hx, x4, rfl⟩ := loop_pre (Z := Zn (n + 1)) (δ := [some (tab w), some (.int b), some (.int m), some (.list []), none, none, none]) (it := .cons (.bin .LShift (.con (.int 1)) (.var 2)) .nil) (tg := .one 4) (k := .range) (as := [.int ((2 ^ m : Nat) : Int)]) (emb := fun i : Nat => PyData.int i) (xs := List.range (2 ^ m))
    (b := (.seq (.app 3 (.ite (.cmp .GtE (.bi .sum (.cons (.comp (.one 6) .range (.cons (.var 2) .nil) (.bin .BitAnd (.bin .RShift (.var 4) (.var 6)) (.con (.int 1))) (.ix (.var 0) (.var 6))) .nil)) (.var 1)) (.con (.int 1)) (.con (.int 0)))) .nil))
    (Q := fun pre δ => ∃ x4, δ = [some (tab w), some (.int b), some (.int m), some (seqD false (pre.map fun p => told w b m p)), x4, none, none]) (evs1 (ev_bin (x := .int 1) (y := .int m) rfl rfl |>.trans (shl_one (by omega)))) (iter_range (by have : 2 ^ m ≤ 2 ^ 4 := Nat.pow_le_pow_right (by decide) hm; omega)) ⟨none, rfl⟩ (fun pre p post δ e hq => by
      obtain ⟨x4, rfl⟩ := hq
      have hb : bindTg (.one 4) (.int (p : Int)) [some (tab w), some (.int b), some (.int m), some (seqD false (pre.map fun p => told w b m p)), x4, none, none] = .ok [some (tab w), some (.int b), some (.int m), some (seqD false (pre.map fun p => told w b m p)), some (.int p), none, none] := rfl
      have ht := told_ev2 (Z := Zn (n + 1)) (δ := [some (tab w), some (.int b), some (.int m), some (seqD false (pre.map fun p => told w b m p)), some (.int p), none, none]) (t := true) (w := w) (b := b) (m := m) (p := p) (a := 0) (im := 2) (ip := 4) (k := 6) (ib := 1) rfl rfl rfl rfl hl (by omega) (by decide) (by decide) (Nat.lt_succ_self 6)
      refine ⟨_, (bind_at hb).trans ((seq_nx (app_ok (xs := (pre.map fun p => told w b m p).map .int) rfl ht ?_)).trans ex_nil), some (.int p), ?_⟩
      · rw [List.length_map, List.length_map]
        have h1 : (List.range (2 ^ m)).length = pre.length + (post.length + 1) := by rw [e, List.length_append, List.length_cons]
        rw [List.length_range] at h1
        have : 2 ^ m ≤ 2 ^ 4 := Nat.pow_le_pow_right (by decide) hm
        have : LN = 16777216 := rfl
        omega
      · show [some (tab w), some (.int b), some (.int m), some (PyData.list ((pre.map fun p => told w b m p).map PyData.int ++ [PyData.int (told w b m p)])), some (.int p), none, none] = _
        rw [List.map_append]
        unfold seqD
        rw [if_neg Bool.false_ne_true, List.map_append]
        rfl)
  refine (seq_nx hx).trans ?_
  exact seq_out (ret_ok (ev_b (evs1 rfl) rfl)) (fun _ z => nomatch z)
end Lk27

set_option Elab.async false
set_option linter.all false
set_option maxRecDepth 100000
set_option maxHeartbeats 2000000
/-! k27, the plain law: judge_weights; equality of int tables. -/
namespace EV
open PySem
theorem lay_ints : ∀ l : List Int, PyData.canLayAll0 (l.map .int) = true
  | [] => rfl
  | i :: l => by
    show (PyData.canLay0 (.int i) && PyData.canLayAll0 (l.map .int)) = true
    rw [lay_ints l]
    rfl
theorem depth_ints : ∀ l : List Int, PyData.depthAll (l.map .int) = 0
  | [] => rfl
  | i :: l => by
    show max (PyData.depth (.int i)) (PyData.depthAll (l.map .int)) = 0
    rw [depth_ints l]
    rfl
theorem eqv_ints : ∀ a b : List Int, PyData.eqvAll (a.map .int) (b.map .int) = decide (a = b)
  | [], [] => rfl
  | [], _ :: _ => rfl
  | _ :: _, [] => rfl
  | x :: a, y :: b => by
    show ((x == y) && PyData.eqvAll (a.map .int) (b.map .int)) = _
    rw [eqv_ints a b]
    by_cases h : x = y
    · subst h
      by_cases h2 : a = b
      · subst h2; simp
      · simp [h2]
    · simp [h]
theorem shaped_tab (l : List Int) : SeqAt.shaped (.tuple (l.map .int)) = true := by
  show (PyData.canLayAll0 (l.map .int) && decide (PyData.depthAll (l.map .int) + 1 ≤ 64)) = true
  rw [lay_ints, depth_ints]
  rfl
theorem shaped_lst (l : List Int) : SeqAt.shaped (.list (l.map .int)) = true := by
  show (PyData.canLayAll0 (l.map .int) && decide (PyData.depthAll (l.map .int) + 1 ≤ 64)) = true
  rw [lay_ints, depth_ints]
  rfl
theorem eq_tab (a b : List Int) : cmpop .Eq (.tuple (a.map .int)) (.tuple (b.map .int)) = .ok (decide (a = b)) := by
  show (if (SeqAt.shaped (.tuple (a.map .int)) && SeqAt.shaped (.tuple (b.map .int))) = true then R.ok (PyData.eqvAll (a.map .int) (b.map .int)) else .bad) = _
  rw [shaped_tab, shaped_tab, eqv_ints]
  rfl
end EV
namespace Lk27
open PySem EV
theorem judge {m : Nat} {T : List Int} (h : IsT m T) {w : List Int} {b : Int} (hl : w.length = m) (n : Nat) : cl (n + 5) 5 [tab T, .tuple [tab w, .int b]] = .ok (.bool (small w b && decide (tabOf w b m = T))) := by
  have hm := h.m4
  have hl2 : (w.map PyData.int).length = m := by rw [List.length_map, hl]
  refine run_rt (Z := Zn (n + 4)) (f := f5) (δ := [some (tab T), some (.tuple [tab w, .int b]), none, none]) rfl rfl ?_
  refine (seq_nx (set_ok (d := .int m) (ev_c (ds := [tab T]) (evs1 rfl) (letters h n)))).trans ?_
  have p0 : ev (Zn (n + 4)) (.ix (.var 1) (.con (.int 0))) [some (tab T), some (.tuple [tab w, .int b]), some (.int m), none] = .ok (tab w) := rfl
  have p1 : ev (Zn (n + 4)) (.ix (.var 1) (.con (.int 1))) [some (tab T), some (.tuple [tab w, .int b]), some (.int m), none] = .ok (.int b) := rfl
  have t1 : ev (Zn (n + 4)) (.bop false (.not (.isi .tuple (.var 1))) (.bop false (.cmp .NotEq (.bi .len (.cons (.var 1) .nil)) (.con (.int 2))) (.bop false (.not (.isi .tuple (.ix (.var 1) (.con (.int 0))))) (.cmp .NotEq (.bi .len (.cons (.ix (.var 1) (.con (.int 0))) .nil)) (.var 2))))) [some (tab T), some (.tuple [tab w, .int b]), some (.int m), none] = .ok (.bool (false || (false || (false || !decide (((w.map PyData.int).length : Int) = (m : Int)))))) :=
    ev_or (ev_not (k := true) rfl) fun _ => ev_or (cmp_ne (i := 2) (j := 2) rfl rfl) fun _ => ev_or (ev_not (k := true) rfl) fun _ => cmp_ne (ev_b (evs1 p0) rfl) rfl
  rw [hl2] at t1
  have t2 : ev (Zn (n + 4)) (.bop false (.not (.gen true (.one 3) .plain (.cons (.ix (.var 1) (.con (.int 0))) .nil) (.bop true (.call 0 (.cons (.var 3) .nil) 0) (.cmp .Lt (.bi .abs (.cons (.var 3) .nil)) (.con (.int 100)))))) (.bop false (.not (.call 0 (.cons (.ix (.var 1) (.con (.int 1))) .nil) 0)) (.cmp .Gt (.bi .abs (.cons (.ix (.var 1) (.con (.int 1))) .nil)) (.con (.int 999))))) [some (tab T), some (.tuple [tab w, .int b]), some (.int m), none] =
      .ok (.bool (!(w.all fun i => decide (ab i < 100)) || (false || decide ((999 : Int) < ab b)))) :=
    ev_or (ev_not (tr_of (small_gen (Z := Zn (n + 4)) (n := n + 3) rfl rfl (evs1 p0) (by show 3 < 4; decide)))) fun _ => ev_or (ev_not (k := true) (tr_of (ev_c (ds := [.int b]) (evs1 p1) (whole0 (n + 3) b)))) fun _ => cmp_gt (ev_b (evs1 p1) rfl) rfl
  have e2 : (!(w.all fun i => decide (ab i < 100)) || (false || decide ((999 : Int) < ab b))) = !(small w b) := by
    unfold small
    rw [Bool.false_or, Bool.not_and]
    congr 1
    by_cases hb : ab b ≤ 999
    · rw [decide_eq_true hb, decide_eq_false (by omega)]; rfl
    · rw [decide_eq_false hb, decide_eq_true (by omega)]; rfl
  rw [e2] at t2
  rw [decide_eq_true rfl] at t1
  refine (seq_nx ((ite_f (tr_of t1)).trans ex_nil)).trans ?_
  cases hs : small w b with
  | false =>
    rw [hs] at t2
    exact seq_out ((ite_t (tr_of t2)).trans (seq_out (ret_ok rfl) (fun _ z => nomatch z))) (fun _ z => nomatch z)
  | true =>
    rw [hs] at t2
    refine (seq_nx ((ite_f (tr_of t2)).trans ex_nil)).trans ?_
    have hc : ev (Zn (n + 4)) (.call 4 (.cons (.ix (.var 1) (.con (.int 0))) (.cons (.ix (.var 1) (.con (.int 1))) .nil)) 0) [some (tab T), some (.tuple [tab w, .int b]), some (.int m), none] = .ok (tab (tabOf w b m)) := ev_c (ds := [tab w, .int b]) (evs2 p0 p1) (by_weights hm hl hs (n + 2))
    rw [Bool.true_and]
    exact seq_out (ret_ok (ev_cmp hc (ev_var rfl) (eq_tab _ _))) (fun _ z => nomatch z)
end Lk27

set_option Elab.async false
set_option linter.all false
set_option maxRecDepth 100000
set_option maxHeartbeats 2000000
/-! k27, the plain law: the draws. -/
namespace EV
open PySem
theorem mod_lit {i j : Int} (h : j ≠ 0) : binop .Mod (.int i) (.int j) = .ok (.int (i.fmod j)) := by
  show (if decide (j ≠ 0) = true then R.ok (PyData.int (i.fmod j)) else .bad) = _
  rw [if_pos (decide_eq_true h)]
theorem fdiv_lit {i j : Int} (h : j ≠ 0) (h2 : j.natAbs < 1073741824) : binop .FloorDiv (.int i) (.int j) = .ok (.int (i.fdiv j)) := by
  show (if (decide (j ≠ 0) && decide (j.natAbs < 1073741824)) = true then R.ok (PyData.int (i.fdiv j)) else .bad) = _
  rw [if_pos (by rw [decide_eq_true h, decide_eq_true h2]; rfl)]
theorem mul_r {i j : Int} (h : smallI j = true) : binop .Mult (.int i) (.int j) = .ok (.int (i * j)) := by
  show (if (smallI i || smallI j) = true then R.ok (PyData.int (i * j)) else .bad) = _
  rw [if_pos (by rw [h, Bool.or_true])]
theorem small_fmod {i j : Int} (h : 0 < j) (h2 : j < 18446744073709551616) : smallI (i.fmod j) = true := by
  unfold smallI
  have h3 := Int.fmod_nonneg_of_pos i h
  have h4 := Int.fmod_lt_of_pos i h
  simp only [Bool.and_eq_true, decide_eq_true_eq]
  omega
theorem add_i {i j : Int} : binop .Add (.int i) (.int j) = .ok (.int (i + j)) := rfl
theorem sub_i {i j : Int} : binop .Sub (.int i) (.int j) = .ok (.int (i - j)) := rfl
theorem ev_o {Z : Sem0} {δ : Env} {a b : Tm} {op : Operator} {x y : D} {r : R D} (h1 : ev Z a δ = .ok x) (h2 : ev Z b δ = .ok y) (h : binop op x y = r) : ev Z (.bin op a b) δ = r := (ev_bin h1 h2).trans h
theorem seqD_snoc (l : List Int) (i : Int) : PyData.list (l.map .int ++ [.int i]) = seqD false (l ++ [i]) := by
  unfold seqD
  rw [if_neg Bool.false_ne_true, List.map_append]
  rfl
end EV
namespace Lk27
open PySem EV
theorem pow18 : binop .Pow (.int 10) (.int 18) = .ok (.int 1000000000000000000) := by
  show (if decide ((0 : Int) ≤ 18) && decide ((18 : Int) ≤ 1000000) && decide ((10 : Int).natAbs < 18446744073709551616) then R.ok (PyData.int (10 ^ (18 : Int).toNat)) else .bad) = _
  rw [if_pos (by decide)]
  exact congrArg (fun i => R.ok (PyData.int i)) (by decide)
theorem cell (ns : List Int) (n : Nat) : ∃ c : Int, cl (n + 1) 11 [.list (ns.map .int), .int 0] = .ok (.int c) := by
  cases ns with
  | nil =>
    refine ⟨0, run_rt (Z := Zn n) (f := f11) (δ := [some (.list []), some (.int 0)]) rfl rfl ?_⟩
    exact (seq_nx ((ite_f (tr_of (cmp_lt (i := 0) (j := 0) rfl rfl))).trans ex_nil)).trans (seq_out (ret_ok rfl) (fun _ z => nomatch z))
  | cons x ns =>
    refine ⟨x, run_rt (Z := Zn n) (f := f11) (δ := [some (.list ((x :: ns).map .int)), some (.int 0)]) rfl rfl ?_⟩
    have t : ev (Zn n) (.cmp .Lt (.var 1) (.bi .len (.cons (.var 0) .nil))) [some (.list ((x :: ns).map .int)), some (.int 0)] = .ok (.bool (decide ((0 : Int) < ((x :: ns).map PyData.int).length))) := cmp_lt rfl (ev_b (evs1 rfl) rfl)
    rw [decide_eq_true (by rw [List.length_map, List.length_cons]; omega)] at t
    refine seq_out ((ite_t (tr_of t)).trans (seq_out (ret_ok (d := .int x) ?_) (fun _ z => nomatch z))) (fun _ z => nomatch z)
    exact (ev_ix (x := .list ((x :: ns).map .int)) (y := .int ((0 : Nat) : Int)) rfl rfl).trans (index_list rfl)
theorem draws (c : Int) (n : Nat) : ∃ l : List Int, l.length = 60 ∧ cl (n + 1) 12 [.int c, .int 60] = .ok (.list (l.map .int)) := by
  obtain ⟨δ', hx, l, r, x4, x5, hl, rfl⟩ := loop_pre (Z := Zn n) (δ := [some (.int c), some (.int 60), some (seqD false []), some (.int c), none, none]) (it := .cons (.var 1) .nil) (tg := .one 4) (k := .range) (as := [.int 60]) (emb := fun i : Nat => PyData.int i) (xs := List.range 60)
    (b := (.seq (.set 5 (.bin .Mod (.bi .int (.cons (.bin .Add (.bin .Add (.bin .Mult (.var 0) (.con (.int 48271))) (.bin .Mult (.var 4) (.con (.int 69621)))) (.con (.int 1))) .nil)) (.con (.int 2147483647)))) (.seq (.ite (.cmp .GtE (.var 0) (.bin .Pow (.con (.int 10)) (.con (.int 18)))) (.seq (.app 2 (.bin .Mod (.var 3) (.con (.int 1009)))) (.seq (.set 3 (.bin .FloorDiv (.var 3) (.con (.int 1009)))) .nil)) (.seq (.app 2 (.bin .FloorDiv (.bin .Mod (.bi .int (.cons (.bin .Add (.bin .Mult (.var 5) (.var 5)) (.bin .Mult (.var 5) (.con (.int 40692)))) .nil)) (.con (.int 2147483399))) (.con (.int 7)))) .nil)) .nil)))
    (Q := fun pre δ => ∃ (l : List Int) (r : Int) (x4 x5 : Option EV.D), l.length = pre.length ∧ δ = [some (.int c), some (.int 60), some (seqD false l), some (.int r), x4, x5]) rfl (iter_range (n := 60) (by decide)) ⟨[], c, none, none, rfl, rfl⟩ (fun pre p post δ e hq => by
      obtain ⟨l, r, x4, x5, hl, rfl⟩ := hq
      have hlen : (List.map PyData.int l).length < LN := by
        have h1 : (List.range 60).length = pre.length + (post.length + 1) := by rw [e, List.length_append, List.length_cons]
        rw [List.length_range] at h1
        rw [List.length_map, hl]
        have : LN = 16777216 := rfl
        omega
      have hb : bindTg (.one 4) (.int (p : Int)) [some (.int c), some (.int 60), some (seqD false l), some (.int r), x4, x5] = .ok [some (.int c), some (.int 60), some (seqD false l), some (.int r), some (.int p), x5] := rfl
      obtain ⟨z, hz⟩ : ∃ z : Int, z = c * 48271 + p * 69621 + 1 := ⟨_, rfl⟩
      have h5 : ev (Zn n) (.bin .Mod (.bi .int (.cons (.bin .Add (.bin .Add (.bin .Mult (.var 0) (.con (.int 48271))) (.bin .Mult (.var 4) (.con (.int 69621)))) (.con (.int 1))) .nil)) (.con (.int 2147483647))) [some (.int c), some (.int 60), some (seqD false l), some (.int r), some (.int p), x5] = .ok (.int (z.fmod 2147483647)) := by
        rw [hz]
        exact ev_o (ev_b (evs1 (ev_o (ev_o (ev_o rfl rfl (mul_r (by decide))) (ev_o rfl rfl (mul_r (by decide))) add_i) rfl add_i)) rfl) rfl (mod_lit (by decide))
      have h6 := small_fmod (i := z) (j := 2147483647) (by decide) (by decide)
      have hpw : ev (Zn n) (.bin .Pow (.con (.int 10)) (.con (.int 18))) [some (.int c), some (.int 60), some (seqD false l), some (.int r), some (.int p), some (.int (z.fmod 2147483647))] = .ok (.int 1000000000000000000) := ev_o (x := .int 10) (y := .int 18) rfl rfl pow18
      have ht : ev (Zn n) (.cmp .GtE (.var 0) (.bin .Pow (.con (.int 10)) (.con (.int 18)))) [some (.int c), some (.int 60), some (seqD false l), some (.int r), some (.int p), some (.int (z.fmod 2147483647))] = .ok (.bool (decide (1000000000000000000 ≤ c))) := cmp_ge rfl hpw
      cases hc : decide (1000000000000000000 ≤ c) with
      | true =>
        rw [hc] at ht
        have ha : ev (Zn n) (.bin .Mod (.var 3) (.con (.int 1009))) [some (.int c), some (.int 60), some (seqD false l), some (.int r), some (.int p), some (.int (z.fmod 2147483647))] = .ok (.int (r.fmod 1009)) := ev_o rfl rfl (mod_lit (by decide))
        have hf : ev (Zn n) (.bin .FloorDiv (.var 3) (.con (.int 1009))) [some (.int c), some (.int 60), some (seqD false (l ++ [r.fmod 1009])), some (.int r), some (.int p), some (.int (z.fmod 2147483647))] = .ok (.int (r.fdiv 1009)) := ev_o rfl rfl (fdiv_lit (by decide) (by decide))
        refine ⟨[some (.int c), some (.int 60), some (seqD false (l ++ [r.fmod 1009])), some (.int (r.fdiv 1009)), some (.int p), some (.int (z.fmod 2147483647))], (bind_at hb).trans ((seq_nx (set_ok h5)).trans ((seq_nx ((ite_t (tr_of ht)).trans ?_)).trans ex_nil)), l ++ [r.fmod 1009], r.fdiv 1009, some (.int p), some (.int (z.fmod 2147483647)), by rw [List.length_append, List.length_append, hl]; rfl, rfl⟩
        refine (seq_nx (δ' := [some (.int c), some (.int 60), some (seqD false (l ++ [r.fmod 1009])), some (.int r), some (.int p), some (.int (z.fmod 2147483647))]) ((app_ok rfl ha hlen).trans ?_)).trans ((seq_nx (set_ok hf)).trans ex_nil)
        rw [seqD_snoc]
        rfl
      | false =>
        rw [hc] at ht
        obtain ⟨q, hq⟩ : ∃ q : Int, q = ((z.fmod 2147483647 * z.fmod 2147483647 + z.fmod 2147483647 * 40692).fmod 2147483399).fdiv 7 := ⟨_, rfl⟩
        have ha : ev (Zn n) (.bin .FloorDiv (.bin .Mod (.bi .int (.cons (.bin .Add (.bin .Mult (.var 5) (.var 5)) (.bin .Mult (.var 5) (.con (.int 40692)))) .nil)) (.con (.int 2147483399))) (.con (.int 7))) [some (.int c), some (.int 60), some (seqD false l), some (.int r), some (.int p), some (.int (z.fmod 2147483647))] = .ok (.int q) := by
          rw [hq]
          exact ev_o (ev_o (ev_b (evs1 (ev_o (ev_o rfl rfl (mul_r h6)) (ev_o rfl rfl (mul_r (by decide))) add_i)) rfl) rfl (mod_lit (by decide))) rfl (fdiv_lit (by decide) (by decide))
        refine ⟨[some (.int c), some (.int 60), some (seqD false (l ++ [q])), some (.int r), some (.int p), some (.int (z.fmod 2147483647))], (bind_at hb).trans ((seq_nx (set_ok h5)).trans ((seq_nx ((ite_f (tr_of ht)).trans ?_)).trans ex_nil)), l ++ [q], r, some (.int p), some (.int (z.fmod 2147483647)), by rw [List.length_append, List.length_append, hl]; rfl, rfl⟩
        refine (seq_nx ((app_ok rfl ha hlen).trans ?_)).trans ex_nil
        rw [seqD_snoc]
        rfl)
  refine ⟨l, by rw [hl, List.length_range], run_rt (Z := Zn n) (f := f12) (δ := [some (.int c), some (.int 60), none, none, none, none]) rfl rfl ?_⟩
  refine (seq_nx (δ' := [some (.int c), some (.int 60), some (seqD false []), none, none, none]) (fresh_ok rfl)).trans ?_
  refine (seq_nx (set_ok (d := .int c) (ev_b (evs1 rfl) rfl))).trans ?_
  refine (seq_nx hx).trans ?_
  exact seq_out (ret_ok rfl) (fun _ z => nomatch z)
end Lk27

set_option Elab.async false
set_option linter.all false
set_option maxRecDepth 100000
set_option maxHeartbeats 2000000
/-! k27, the plain law: the table drawn. -/
namespace EV
open PySem
open Classical in
theorem pick {α : Type} {xs : List α} {P : α → Int → Prop} (h : ∀ x ∈ xs, ∃ i : Int, P x i) : ∃ g : α → Int, ∀ x ∈ xs, P x (g x) :=
  ⟨fun x => if hx : x ∈ xs then Classical.choose (h x hx) else 0, fun x hx => by
    dsimp only
    rw [dif_pos hx]
    exact Classical.choose_spec (h x hx)⟩
/-- [e for j in it]: ints, each with P -/
theorem comp_ints {Z : Sem0} {δ : Env} {it e : Tm} {k : Itk} {as : List D} {α : Type} {emb : α → D} {xs : List α} {j : Nat} {P : Int → Prop} (hi : evs Z it δ = .ok as) (hk : iterate k as = .ok (xs.map emb)) (he : ∀ x ∈ xs, ∃ i : Int, P i ∧ ev Z e (δ.set j (some (emb x))) = .ok (.int i)) :
    ∃ l : List Int, l.length = xs.length ∧ (∀ i ∈ l, P i) ∧ ev Z (.comp (.one j) k it (.con (.bool true)) e) δ = .ok (seqD false l) := by
  obtain ⟨g, hg⟩ := pick he
  refine ⟨xs.map g, List.length_map _, fun i hi => ?_, ?_⟩
  · obtain ⟨x, hx, rfl⟩ := List.mem_map.mp hi
    exact (hg x hx).1
  · refine (comp_plain (b := fun _ => true) (g := fun x => PyData.int (g x)) hi hk (fun x hx => rfl) fun x hx _ => (hg x hx).2).trans ?_
    rw [filter_tt]
    unfold seqD
    rw [if_neg Bool.false_ne_true, List.map_map]
    rfl
/-- [e for j in it if c]: ints, each with P -/
theorem comp_intsC {Z : Sem0} {δ : Env} {it c e : Tm} {k : Itk} {as : List D} {α : Type} {emb : α → D} {xs : List α} {j : Nat} {P : Int → Prop} {b : α → Bool} (hi : evs Z it δ = .ok as) (hk : iterate k as = .ok (xs.map emb)) (hc : ∀ x ∈ xs, (ev Z c (δ.set j (some (emb x)))).bind truth = .ok (b x)) (he : ∀ x ∈ xs, ∃ i : Int, P i ∧ ev Z e (δ.set j (some (emb x))) = .ok (.int i)) :
    ∃ l : List Int, l.length ≤ xs.length ∧ (∀ i ∈ l, P i) ∧ ev Z (.comp (.one j) k it c e) δ = .ok (seqD false l) := by
  obtain ⟨g, hg⟩ := pick he
  refine ⟨(xs.filter b).map g, by rw [List.length_map]; exact List.length_filter_le _ _, fun i hi => ?_, ?_⟩
  · obtain ⟨x, hx, rfl⟩ := List.mem_map.mp hi
    exact (hg x (List.mem_filter.mp hx).1).1
  · refine (comp_plain (b := b) (g := fun x => PyData.int (g x)) hi hk hc fun x hx _ => (hg x hx).2).trans ?_
    unfold seqD
    rw [if_neg Bool.false_ne_true, List.map_map]
    rfl
theorem index_int {t : Bool} {l : List Int} {i : Int} (h0 : 0 ≤ i) (h1 : i < l.length) : index (seqD t l) (.int i) = .ok (.int (l.getD i.toNat 0)) := by
  obtain ⟨k, rfl⟩ := Int.eq_ofNat_of_zero_le h0
  exact index_seq (by omega)
theorem sum_seq (l : List Int) : bicall .sum [seqD false l] = .ok (.int l.sum) := sum_list l
theorem fmod2 (i : Int) : i.fmod 2 = 0 ∨ i.fmod 2 = 1 := by
  have h3 := Int.fmod_nonneg_of_pos i (show (0 : Int) < 2 by decide)
  have h4 := Int.fmod_lt_of_pos i (show (0 : Int) < 2 by decide)
  omega
theorem int_bool (b : Bool) : bicall .int [.bool b] = .ok (.int (if b then 1 else 0)) := rfl
end EV
namespace Lk27
open PySem EV
structure IsR (m : Nat) (T : List Int) : Prop where
  len : T.length = 2 ^ m
  bit : ∀ t ∈ T, t = 0 ∨ t = 1
abbrev E13 (l : List Int) (m : Nat) (row : List Int) (kd : Int) (x6 x7 : Option EV.D) : EV.Env := [some (seqD false l), some (.int 1), some (.int m), some (seqD false row), some (.int ((2 ^ m : Nat) : Int)), some (.int kd), x6, x7, none, none, none]
section
variable {Z : Sem0} {l row : List Int} {m : Nat} {kd : Int} {x6 x7 : Option EV.D}
theorem pow_le {m : Nat} (h : m ≤ 4) : 2 ^ m ≤ 16 := Nat.pow_le_pow_right (n := 2) (by decide) h
theorem t33 (hl : l.length = 60) {δ : EV.Env} (h0 : envGet δ 0 = .ok (seqD false l)) (h1 : envGet δ 1 = .ok (.int 1)) : ∃ i : Int, ev Z (.ix (.var 0) (.bin .Add (.var 1) (.con (.int 33)))) δ = .ok (.int i) :=
  ⟨_, (ev_ix (ev_var h0) (ev_o (ev_var h1) rfl add_i)).trans (index_int (by omega) (by rw [hl]; decide))⟩
theorem t1p (hl : l.length = 60) {δ : EV.Env} {a : Tm} {p : Int} (h0 : envGet δ 0 = .ok (seqD false l)) (h1 : envGet δ 1 = .ok (.int 1)) (ha : ev Z a δ = .ok (.int p)) (hp0 : 0 ≤ p) (hp : p ≤ 30) : ∃ i : Int, ev Z (.ix (.var 0) (.bin .Add (.bin .Add (.var 1) (.con (.int 1))) a)) δ = .ok (.int i) :=
  ⟨_, (ev_ix (ev_var h0) (ev_o (ev_o (ev_var h1) rfl add_i) ha add_i)).trans (index_int (by omega) (by rw [hl]; omega))⟩
theorem row0 (hm : m ≤ 4) (hl : l.length = 60) (x3 : Option EV.D) : ∃ row, IsR m row ∧ ev Z (.comp (.one 8) .range (.cons (.var 4) .nil) (.con (.bool true)) (.bin .Mod (.ix (.var 0) (.bin .Add (.bin .Add (.var 1) (.con (.int 1))) (.var 8))) (.con (.int 2)))) [some (seqD false l), some (.int 1), some (.int m), x3, some (.int ((2 ^ m : Nat) : Int)), some (.int kd), x6, x7, none, none, none] = .ok (seqD false row) := by
  have := pow_le hm
  obtain ⟨row, h1, h2, h3⟩ := comp_ints (Z := Z) (δ := [some (seqD false l), some (.int 1), some (.int m), x3, some (.int ((2 ^ m : Nat) : Int)), some (.int kd), x6, x7, none, none, none]) (it := .cons (.var 4) .nil) (e := (.bin .Mod (.ix (.var 0) (.bin .Add (.bin .Add (.var 1) (.con (.int 1))) (.var 8))) (.con (.int 2)))) (k := .range) (as := [.int ((2 ^ m : Nat) : Int)]) (emb := fun i : Nat => PyData.int i) (xs := List.range (2 ^ m)) (j := 8) (P := fun i => i = 0 ∨ i = 1) rfl (iter_range (by omega)) (fun p hp => by
      have hp := List.mem_range.mp hp
      obtain ⟨i, hi⟩ := t1p (Z := Z) (l := l) hl (δ := [some (seqD false l), some (.int 1), some (.int m), x3, some (.int ((2 ^ m : Nat) : Int)), some (.int kd), x6, x7, some (.int (p : Int)), none, none]) (a := .var 8) (p := p) rfl rfl rfl (by omega) (by omega)
      exact ⟨_, fmod2 i, ev_o hi rfl (mod_lit (by decide))⟩)
  exact ⟨row, ⟨by rw [h1, List.length_range], h2⟩, h3⟩
theorem row1 (hm : m ≤ 4) (hl : l.length = 60) (hr : IsR m row) : ∃ row', IsR m row' ∧ ev Z (.comp (.one 8) .range (.cons (.var 4) .nil) (.con (.bool true)) (.bin .Mod (.bin .Add (.bi .sum (.cons (.comp (.one 9) .range (.cons (.var 2) .nil) (.bin .BitAnd (.bin .RShift (.var 8) (.var 9)) (.con (.int 1))) (.ix (.var 3) (.bin .Mod (.var 9) (.var 4)))) .nil)) (.ix (.var 0) (.bin .Add (.var 1) (.con (.int 33))))) (.con (.int 2)))) (E13 l m row kd x6 x7) = .ok (seqD false row') := by
  have := pow_le hm
  have hpos : 0 < 2 ^ m := Nat.pow_pos (by decide)
  obtain ⟨row', h1, h2, h3⟩ := comp_ints (Z := Z) (δ := E13 l m row kd x6 x7) (it := .cons (.var 4) .nil) (e := (.bin .Mod (.bin .Add (.bi .sum (.cons (.comp (.one 9) .range (.cons (.var 2) .nil) (.bin .BitAnd (.bin .RShift (.var 8) (.var 9)) (.con (.int 1))) (.ix (.var 3) (.bin .Mod (.var 9) (.var 4)))) .nil)) (.ix (.var 0) (.bin .Add (.var 1) (.con (.int 33))))) (.con (.int 2)))) (k := .range) (as := [.int ((2 ^ m : Nat) : Int)]) (emb := fun i : Nat => PyData.int i) (xs := List.range (2 ^ m)) (j := 8) (P := fun i => i = 0 ∨ i = 1) rfl (iter_range (by omega)) (fun p hp => by
      obtain ⟨i, hi⟩ := t33 (Z := Z) (l := l) hl (δ := [some (seqD false l), some (.int 1), some (.int m), some (seqD false row), some (.int ((2 ^ m : Nat) : Int)), some (.int kd), x6, x7, some (.int (p : Int)), none, none]) rfl rfl
      obtain ⟨u, _, _, hu⟩ := comp_intsC (Z := Z) (δ := [some (seqD false l), some (.int 1), some (.int m), some (seqD false row), some (.int ((2 ^ m : Nat) : Int)), some (.int kd), x6, x7, some (.int (p : Int)), none, none]) (it := .cons (.var 2) .nil) (c := .bin .BitAnd (.bin .RShift (.var 8) (.var 9)) (.con (.int 1))) (e := .ix (.var 3) (.bin .Mod (.var 9) (.var 4))) (k := .range) (as := [.int m]) (emb := fun i : Nat => PyData.int i) (xs := List.range m) (j := 9) (P := fun _ => True) (b := fun k => p.testBit k) rfl (iter_range (by omega))
        (fun k hk => by rw [ev_bit (p := p) (k := k) rfl rfl]; exact truth_bit _)
        (fun k hk => by
          have hq : (0 : Int) < ((2 ^ m : Nat) : Int) := by omega
          have h3 := Int.fmod_nonneg_of_pos (k : Int) hq
          have h4 := Int.fmod_lt_of_pos (k : Int) hq
          exact ⟨_, trivial, (ev_ix (x := seqD false row) rfl (ev_o (x := .int (k : Int)) (y := .int ((2 ^ m : Nat) : Int)) rfl rfl (mod_lit (by omega)))).trans (index_int h3 (by rw [hr.len]; exact h4))⟩)
      exact ⟨_, fmod2 (u.sum + i), ev_o (ev_o (ev_b (evs1 hu) (sum_seq u)) hi add_i) rfl (mod_lit (by decide))⟩)
  exact ⟨row', ⟨by rw [h1, List.length_range], h2⟩, h3⟩
theorem bint (b : Bool) : (if b then (1 : Int) else 0) = 0 ∨ (if b then (1 : Int) else 0) = 1 := by cases b <;> simp
theorem row2 (hm : m ≤ 4) (hl : l.length = 60) {sd : List Int} : ∃ row', IsR m row' ∧ ev Z (.comp (.one 8) .range (.cons (.var 4) .nil) (.con (.bool true)) (.bi .int (.cons (.cmp .NotEq (.comp (.one 10) .plain (.cons (.var 6) .nil) (.cmp .Eq (.bin .BitAnd (.var 10) (.var 8)) (.var 10)) (.var 10)) (.lst .nil)) .nil))) (E13 l m row kd (some (seqD false sd)) x7) = .ok (seqD false row') := by
  have := pow_le hm
  obtain ⟨row', h1, h2, h3⟩ := comp_ints (Z := Z) (δ := E13 l m row kd (some (seqD false sd)) x7) (it := .cons (.var 4) .nil) (e := (.bi .int (.cons (.cmp .NotEq (.comp (.one 10) .plain (.cons (.var 6) .nil) (.cmp .Eq (.bin .BitAnd (.var 10) (.var 8)) (.var 10)) (.var 10)) (.lst .nil)) .nil))) (k := .range) (as := [.int ((2 ^ m : Nat) : Int)]) (emb := fun i : Nat => PyData.int i) (xs := List.range (2 ^ m)) (j := 8) (P := fun i => i = 0 ∨ i = 1) rfl (iter_range (by omega)) (fun p hp => by
      obtain ⟨u, _, _, hu⟩ := comp_intsC (Z := Z) (δ := [some (seqD false l), some (.int 1), some (.int m), some (seqD false row), some (.int ((2 ^ m : Nat) : Int)), some (.int kd), some (seqD false sd), x7, some (.int (p : Int)), none, none]) (it := .cons (.var 6) .nil) (c := .cmp .Eq (.bin .BitAnd (.var 10) (.var 8)) (.var 10)) (e := .var 10) (k := .plain) (as := [seqD false sd]) (emb := PyData.int) (xs := sd) (j := 10) (P := fun _ => True) (b := fun z => decide (Builtin.bitAnd z (p : Int) = z)) rfl rfl
        (fun z hz => tr_of (cmp_eq (ev_o (x := .int z) (y := .int (p : Int)) rfl rfl rfl) rfl))
        (fun z hz => ⟨z, trivial, rfl⟩)
      have hn : cmpop .NotEq (seqD false u) (seqD false []) = .ok (!(PyData.eqvAll (u.map .int) [])) := by
        show (if (SeqAt.shaped (.list (u.map .int)) && SeqAt.shaped (.list (([] : List Int).map .int))) = true then R.ok (!(PyData.eqvAll (u.map .int) [])) else .bad) = _
        rw [shaped_lst, shaped_lst]
        rfl
      exact ⟨_, bint _, ev_b (evs1 (ev_cmp hu rfl hn)) (int_bool _)⟩)
  exact ⟨row', ⟨by rw [h1, List.length_range], h2⟩, h3⟩
theorem seeds (hm : m ≤ 4) (hl : l.length = 60) : ∃ sd : List Int, ev Z (.comp (.one 8) .range (.cons (.var 4) .nil) (.cmp .Eq (.bin .Mod (.ix (.var 0) (.bin .Add (.bin .Add (.var 1) (.con (.int 1))) (.var 8))) (.con (.int 4))) (.con (.int 0))) (.var 8)) (E13 l m row kd x6 x7) = .ok (seqD false sd) := by
  have := pow_le hm
  obtain ⟨g, hg⟩ : ∃ g : Nat → Int, ∀ p ∈ List.range (2 ^ m), ev Z (.ix (.var 0) (.bin .Add (.bin .Add (.var 1) (.con (.int 1))) (.var 8))) [some (seqD false l), some (.int 1), some (.int m), some (seqD false row), some (.int ((2 ^ m : Nat) : Int)), some (.int kd), x6, x7, some (.int (p : Int)), none, none] = .ok (.int (g p)) := pick (xs := List.range (2 ^ m)) (P := fun (p : Nat) (i : Int) => ev Z (.ix (.var 0) (.bin .Add (.bin .Add (.var 1) (.con (.int 1))) (.var 8))) [some (seqD false l), some (.int 1), some (.int m), some (seqD false row), some (.int ((2 ^ m : Nat) : Int)), some (.int kd), x6, x7, some (.int (p : Int)), none, none] = .ok (.int i)) fun p hp => by
    have hp := List.mem_range.mp hp
    exact t1p (Z := Z) (l := l) hl (δ := [some (seqD false l), some (.int 1), some (.int m), some (seqD false row), some (.int ((2 ^ m : Nat) : Int)), some (.int kd), x6, x7, some (.int (p : Int)), none, none]) (a := .var 8) (p := p) rfl rfl rfl (by omega) (by omega)
  obtain ⟨u, _, _, hu⟩ := comp_intsC (Z := Z) (δ := E13 l m row kd x6 x7) (it := .cons (.var 4) .nil) (c := .cmp .Eq (.bin .Mod (.ix (.var 0) (.bin .Add (.bin .Add (.var 1) (.con (.int 1))) (.var 8))) (.con (.int 4))) (.con (.int 0))) (e := .var 8) (k := .range) (as := [.int ((2 ^ m : Nat) : Int)]) (emb := fun i : Nat => PyData.int i) (xs := List.range (2 ^ m)) (j := 8) (P := fun _ => True) (b := fun p => decide ((g p).fmod 4 = 0)) rfl (iter_range (by omega))
    (fun p hp => tr_of (cmp_eq (ev_o (hg p hp) rfl (mod_lit (by decide))) rfl)) (fun p hp => ⟨p, trivial, rfl⟩)
  exact ⟨u, hu⟩
theorem wts (hm : m ≤ 4) (hl : l.length = 60) : ∃ ws : List Int, ws.length = m ∧ ev Z (.comp (.one 9) .range (.cons (.var 2) .nil) (.con (.bool true)) (.bin .Sub (.bin .Mod (.ix (.var 0) (.bin .Add (.bin .Add (.var 1) (.con (.int 1))) (.var 9))) (.con (.int 7))) (.con (.int 2)))) (E13 l m row kd x6 x7) = .ok (seqD false ws) := by
  obtain ⟨u, h1, _, hu⟩ := comp_ints (Z := Z) (δ := E13 l m row kd x6 x7) (it := .cons (.var 2) .nil) (e := (.bin .Sub (.bin .Mod (.ix (.var 0) (.bin .Add (.bin .Add (.var 1) (.con (.int 1))) (.var 9))) (.con (.int 7))) (.con (.int 2)))) (k := .range) (as := [.int m]) (emb := fun i : Nat => PyData.int i) (xs := List.range m) (j := 9) (P := fun _ => True) rfl (iter_range (by omega)) (fun p hp => by
      have hp := List.mem_range.mp hp
      obtain ⟨i, hi⟩ := t1p (Z := Z) (l := l) hl (δ := [some (seqD false l), some (.int 1), some (.int m), some (seqD false row), some (.int ((2 ^ m : Nat) : Int)), some (.int kd), x6, x7, none, some (.int (p : Int)), none]) (a := .var 9) (p := p) rfl rfl rfl (by omega) (by omega)
      exact ⟨_, trivial, ev_o (ev_o hi rfl (mod_lit (by decide))) rfl sub_i⟩)
  exact ⟨u, by rw [h1, List.length_range], hu⟩
theorem row3 (hm : m ≤ 4) (hl : l.length = 60) {ws : List Int} (hw : ws.length = m) : ∃ row', IsR m row' ∧ ev Z (.comp (.one 8) .range (.cons (.var 4) .nil) (.con (.bool true)) (.bi .int (.cons (.cmp .Gt (.bi .sum (.cons (.comp (.one 9) .range (.cons (.var 2) .nil) (.bin .BitAnd (.bin .RShift (.var 8) (.var 9)) (.con (.int 1))) (.ix (.var 7) (.var 9))) .nil)) (.bin .Sub (.bin .Mod (.ix (.var 0) (.bin .Add (.var 1) (.con (.int 33)))) (.con (.int 7))) (.con (.int 2)))) .nil))) (E13 l m row kd x6 (some (seqD false ws))) = .ok (seqD false row') := by
  have := pow_le hm
  obtain ⟨row', h1, h2, h3⟩ := comp_ints (Z := Z) (δ := E13 l m row kd x6 (some (seqD false ws))) (it := .cons (.var 4) .nil) (e := (.bi .int (.cons (.cmp .Gt (.bi .sum (.cons (.comp (.one 9) .range (.cons (.var 2) .nil) (.bin .BitAnd (.bin .RShift (.var 8) (.var 9)) (.con (.int 1))) (.ix (.var 7) (.var 9))) .nil)) (.bin .Sub (.bin .Mod (.ix (.var 0) (.bin .Add (.var 1) (.con (.int 33)))) (.con (.int 7))) (.con (.int 2)))) .nil))) (k := .range) (as := [.int ((2 ^ m : Nat) : Int)]) (emb := fun i : Nat => PyData.int i) (xs := List.range (2 ^ m)) (j := 8) (P := fun i => i = 0 ∨ i = 1) rfl (iter_range (by omega)) (fun p hp => by
      obtain ⟨i, hi⟩ := t33 (Z := Z) (l := l) hl (δ := [some (seqD false l), some (.int 1), some (.int m), some (seqD false row), some (.int ((2 ^ m : Nat) : Int)), some (.int kd), x6, some (seqD false ws), some (.int (p : Int)), none, none]) rfl rfl
      have hd := ev_dot (Z := Z) (δ := [some (seqD false l), some (.int 1), some (.int m), some (seqD false row), some (.int ((2 ^ m : Nat) : Int)), some (.int kd), x6, some (seqD false ws), some (.int (p : Int)), none, none]) (t := false) (w := ws) (m := m) (p := p) (a := 7) (im := 2) (ip := 8) (k := 9) rfl rfl rfl hw (by omega) (by decide) (by decide) (by show 9 < 11; decide)
      exact ⟨_, bint _, ev_b (evs1 (cmp_gt hd (ev_o (ev_o hi rfl (mod_lit (by decide))) rfl sub_i))) (int_bool _)⟩)
  exact ⟨row', ⟨by rw [h1, List.length_range], h2⟩, h3⟩
theorem sum_le : ∀ l : List Int, (∀ i ∈ l, 0 ≤ i ∧ i ≤ 1) → 0 ≤ l.sum ∧ l.sum ≤ l.length
  | [], _ => ⟨by simp, by simp⟩
  | x :: l, h => by
    have h1 := h x List.mem_cons_self
    have h2 := sum_le l fun i hi => h i (List.mem_cons_of_mem _ hi)
    rw [List.sum_cons, List.length_cons]
    omega
theorem row4 (hm : m ≤ 4) (hl : l.length = 60) : ∃ row', IsR m row' ∧ ev Z (.comp (.one 8) .range (.cons (.var 4) .nil) (.con (.bool true)) (.bin .Mod (.ix (.var 0) (.bin .Add (.bin .Add (.var 1) (.con (.int 1))) (.bi .sum (.cons (.comp (.one 9) .range (.cons (.var 2) .nil) (.con (.bool true)) (.bin .BitAnd (.bin .RShift (.var 8) (.var 9)) (.con (.int 1)))) .nil)))) (.con (.int 2)))) (E13 l m row kd x6 x7) = .ok (seqD false row') := by
  have := pow_le hm
  obtain ⟨row', h1, h2, h3⟩ := comp_ints (Z := Z) (δ := E13 l m row kd x6 x7) (it := .cons (.var 4) .nil) (e := (.bin .Mod (.ix (.var 0) (.bin .Add (.bin .Add (.var 1) (.con (.int 1))) (.bi .sum (.cons (.comp (.one 9) .range (.cons (.var 2) .nil) (.con (.bool true)) (.bin .BitAnd (.bin .RShift (.var 8) (.var 9)) (.con (.int 1)))) .nil)))) (.con (.int 2)))) (k := .range) (as := [.int ((2 ^ m : Nat) : Int)]) (emb := fun i : Nat => PyData.int i) (xs := List.range (2 ^ m)) (j := 8) (P := fun i => i = 0 ∨ i = 1) rfl (iter_range (by omega)) (fun p hp => by
      obtain ⟨u, hul, hub, hu⟩ := comp_ints (Z := Z) (δ := [some (seqD false l), some (.int 1), some (.int m), some (seqD false row), some (.int ((2 ^ m : Nat) : Int)), some (.int kd), x6, x7, some (.int (p : Int)), none, none]) (it := .cons (.var 2) .nil) (e := .bin .BitAnd (.bin .RShift (.var 8) (.var 9)) (.con (.int 1))) (k := .range) (as := [.int m]) (emb := fun i : Nat => PyData.int i) (xs := List.range m) (j := 9) (P := fun i => 0 ≤ i ∧ i ≤ 1) rfl (iter_range (by omega))
        (fun k hk => ⟨_, by cases p.testBit k <;> decide, ev_bit (p := p) (k := k) rfl rfl⟩)
      have hs := sum_le u hub
      rw [hul, List.length_range] at hs
      obtain ⟨i, hi⟩ := t1p (Z := Z) (l := l) hl (δ := [some (seqD false l), some (.int 1), some (.int m), some (seqD false row), some (.int ((2 ^ m : Nat) : Int)), some (.int kd), x6, x7, some (.int (p : Int)), none, none]) (a := .bi .sum (.cons (.comp (.one 9) .range (.cons (.var 2) .nil) (.con (.bool true)) (.bin .BitAnd (.bin .RShift (.var 8) (.var 9)) (.con (.int 1)))) .nil)) (p := u.sum) rfl rfl (ev_b (evs1 hu) (sum_seq u)) hs.1 (by omega)
      exact ⟨_, fmod2 i, ev_o hi rfl (mod_lit (by decide))⟩)
  exact ⟨row', ⟨by rw [h1, List.length_range], h2⟩, h3⟩
theorem if_row {c : Tm} {a : Sm} {k : Bool} (hr : IsR m row) (hc : (ev Z c (E13 l m row kd x6 x7)).bind truth = .ok k) (ha : k = true → ∃ row' x6' x7', IsR m row' ∧ ex Z a (E13 l m row kd x6 x7) = .ok (.nx (E13 l m row' kd x6' x7'))) : ∃ row' x6' x7', IsR m row' ∧ ex Z (.ite c a .nil) (E13 l m row kd x6 x7) = .ok (.nx (E13 l m row' kd x6' x7')) := by
  cases k with
  | true =>
    obtain ⟨a1, a2, a3, h1, h2⟩ := ha rfl
    exact ⟨a1, a2, a3, h1, (ite_t hc).trans h2⟩
  | false => exact ⟨row, x6, x7, hr, (ite_f hc).trans ex_nil⟩
end
theorem table {l : List Int} {m : Nat} (hm : m ≤ 4) (hl : l.length = 60) (n : Nat) : ∃ T, IsT m T ∧ cl (n + 1) 13 [.list (l.map .int), .int 1, .int m] = .ok (tab T) := by
  obtain ⟨kd, hkd⟩ : ∃ kd : Int, ev (Zn n) (.bin .Mod (.ix (.var 0) (.var 1)) (.con (.int 7))) [some (seqD false l), some (.int 1), some (.int m), none, none, none, none, none, none, none, none] = .ok (.int kd) :=
    ⟨_, ev_o ((ev_ix (x := seqD false l) (y := .int 1) rfl rfl).trans (index_int (by decide) (by rw [hl]; decide))) rfl (mod_lit (by decide))⟩
  have hsz : ev (Zn n) (.bin .LShift (.con (.int 1)) (.var 2)) [some (seqD false l), some (.int 1), some (.int m), none, none, none, none, none, none, none, none] = .ok (.int ((2 ^ m : Nat) : Int)) := ev_o (x := .int 1) (y := .int m) rfl rfl (shl_one (by omega))
  obtain ⟨r0, hr0, e0⟩ := row0 (Z := Zn n) (l := l) (m := m) (kd := kd) (x6 := none) (x7 := none) hm hl none
  obtain ⟨r1, y6, y7, hr1, e1⟩ := if_row (Z := Zn n) (l := l) (kd := kd) (x6 := none) (x7 := none) (c := .cmp .Eq (.var 5) (.con (.int 1))) hr0 (tr_of (cmp_eq (i := kd) (j := 1) rfl rfl)) (fun _ => by
    obtain ⟨r, hr, e⟩ := row1 (Z := Zn n) (l := l) (m := m) (row := r0) (kd := kd) (x6 := none) (x7 := none) hm hl hr0
    exact ⟨r, none, none, hr, (seq_nx (δ' := E13 l m r kd none none) (fresh_ok (i := 3) e)).trans ex_nil⟩)
  obtain ⟨r2, z6, z7, hr2, e2⟩ := if_row (Z := Zn n) (l := l) (kd := kd) (x6 := y6) (x7 := y7) (c := .cmp .Eq (.var 5) (.con (.int 2))) hr1 (tr_of (cmp_eq (i := kd) (j := 2) rfl rfl)) (fun _ => by
    obtain ⟨sd, es⟩ := seeds (Z := Zn n) (l := l) (m := m) (row := r1) (kd := kd) (x6 := y6) (x7 := y7) hm hl
    obtain ⟨r, hr, e⟩ := row2 (Z := Zn n) (l := l) (m := m) (row := r1) (kd := kd) (x7 := y7) hm hl (sd := sd)
    exact ⟨r, some (seqD false sd), y7, hr, (seq_nx (δ' := E13 l m r1 kd (some (seqD false sd)) y7) (fresh_ok (i := 6) es)).trans ((seq_nx (δ' := E13 l m r kd (some (seqD false sd)) y7) (fresh_ok (i := 3) e)).trans ex_nil)⟩)
  obtain ⟨r3, u6, u7, hr3, e3⟩ := if_row (Z := Zn n) (l := l) (kd := kd) (x6 := z6) (x7 := z7) (c := .cmp .Eq (.var 5) (.con (.int 3))) hr2 (tr_of (cmp_eq (i := kd) (j := 3) rfl rfl)) (fun _ => by
    obtain ⟨ws, hw, es⟩ := wts (Z := Zn n) (l := l) (m := m) (row := r2) (kd := kd) (x6 := z6) (x7 := z7) hm hl
    obtain ⟨r, hr, e⟩ := row3 (Z := Zn n) (l := l) (m := m) (row := r2) (kd := kd) (x6 := z6) hm hl hw
    exact ⟨r, z6, some (seqD false ws), hr, (seq_nx (δ' := E13 l m r2 kd z6 (some (seqD false ws))) (fresh_ok (i := 7) es)).trans ((seq_nx (δ' := E13 l m r kd z6 (some (seqD false ws))) (fresh_ok (i := 3) e)).trans ex_nil)⟩)
  obtain ⟨r4, v6, v7, hr4, e4⟩ := if_row (Z := Zn n) (l := l) (kd := kd) (x6 := u6) (x7 := u7) (c := .cmp .Eq (.var 5) (.con (.int 4))) hr3 (tr_of (cmp_eq (i := kd) (j := 4) rfl rfl)) (fun _ => by
    obtain ⟨r, hr, e⟩ := row4 (Z := Zn n) (l := l) (m := m) (row := r3) (kd := kd) (x6 := u6) (x7 := u7) hm hl
    exact ⟨r, u6, u7, hr, (seq_nx (δ' := E13 l m r kd u6 u7) (fresh_ok (i := 3) e)).trans ex_nil⟩)
  refine ⟨r4, ⟨hm, hr4.len, hr4.bit⟩, run_rt (Z := Zn n) (f := f13) (δ := [some (seqD false l), some (.int 1), some (.int m), none, none, none, none, none, none, none, none]) rfl rfl ?_⟩
  have hp : ex (Zn n) (.pars [4, 5] (.cons (.bin .LShift (.con (.int 1)) (.var 2)) (.cons (.bin .Mod (.ix (.var 0) (.var 1)) (.con (.int 7))) .nil))) [some (seqD false l), some (.int 1), some (.int m), none, none, none, none, none, none, none, none] = .ok (.nx [some (seqD false l), some (.int 1), some (.int m), none, some (.int ((2 ^ m : Nat) : Int)), some (.int kd), none, none, none, none, none]) := exPars_ok (evs2 hsz hkd) rfl
  refine (seq_nx hp).trans ?_
  refine (seq_nx (δ' := E13 l m r0 kd none none) (fresh_ok e0)).trans ?_
  refine (seq_nx e1).trans ((seq_nx e2).trans ((seq_nx e3).trans ((seq_nx e4).trans ?_)))
  exact seq_out (ret_ok (ev_b (evs1 rfl) rfl)) (fun _ z => nomatch z)
end Lk27

set_option Elab.async false
set_option linter.all false
set_option maxRecDepth 100000
set_option maxHeartbeats 2000000
/-! k27, the plain law: the law's own learning. -/
namespace Lk27
open PySem EV
abbrev E14 (x0 x1 : Option EV.D) (T : List Int) (m r : Nat) (s : PS) (fn : Bool) (x7 x14 x15 x17 x18 : Option EV.D) : EV.Env := [x0, x1, some (.int m), some (.int ((2 ^ m : Nat) : Int)), some (seqD true T), some (.int r), some (.bool fn), x7, none, some (seqD false s.w), some (.int s.b), some (.int s.c), none, none, x14, x15, none, x17, x18]
abbrev inB : Sm := (.seq (.set 17 (.bi .int (.cons (.cmp .GtE (.bi .sum (.cons (.comp (.one 16) .range (.cons (.var 2) .nil) (.bin .BitAnd (.bin .RShift (.var 15) (.var 16)) (.con (.int 1))) (.ix (.var 9) (.var 16))) .nil)) (.var 10)) .nil))) (.seq (.ite (.cmp .NotEq (.var 17) (.ix (.var 4) (.var 15))) (.seq (.set 11 (.bin .Add (.var 11) (.con (.int 1)))) (.seq (.set 18 (.bin .Sub (.ix (.var 4) (.var 15)) (.var 17))) (.seq (.fresh 9 (.comp (.one 16) .range (.cons (.var 2) .nil) (.con (.bool true)) (.bin .Add (.ix (.var 9) (.var 16)) (.bin .Mult (.var 18) (.bin .BitAnd (.bin .RShift (.var 15) (.var 16)) (.con (.int 1))))))) (.seq (.set 10 (.bin .Sub (.var 10) (.var 18))) .nil)))) .nil) .nil))
abbrev inL : Sm := .loop (.one 15) .range (.cons (.var 3) .nil) inB
abbrev outB : Sm := (.seq (.ite (.not (.var 6)) (.seq (.set 14 (.var 11)) (.seq inL (.seq (.set 6 (.cmp .Eq (.var 11) (.var 14))) .nil))) .nil) .nil)
theorem small_bit (b : Bool) : smallI (if b then 1 else 0) = true := by cases b <;> rfl
theorem step_ev2 {Z : Sem0} {δ : EV.Env} {w : List Int} {m p a im ip k ist : Nat} {st : Int} (hw : envGet δ a = .ok (seqD false w)) (hm : envGet δ im = .ok (.int m)) (hp : envGet δ ip = .ok (.int p)) (hs : envGet δ ist = .ok (.int st)) (hl : w.length = m) (hm2 : m ≤ 16777216) (ha : k ≠ a) (hi : k ≠ ip) (hi2 : k ≠ ist) (hk : k < δ.length) :
    ev Z (.comp (.one k) .range (.cons (.var im) .nil) (.con (.bool true)) (.bin .Add (.ix (.var a) (.var k)) (.bin .Mult (.var ist) (.bin .BitAnd (.bin .RShift (.var ip) (.var k)) (.con (.int 1)))))) δ = .ok (seqD false ((List.range m).map fun k => w.getD k 0 + if p.testBit k then st else 0)) := by
  refine (comp_plain (as := [.int m]) (emb := fun i : Nat => PyData.int i) (b := fun _ => true) (g := fun k => PyData.int (w.getD k 0 + if p.testBit k then st else 0)) (evs_cons (ev_var hm) evs_nil) (iter_range (by omega)) (fun x hx => rfl) (fun x hx _ => ?_)).trans ?_
  · refine (ev_bin (x := .int (w.getD x 0)) (y := .int (if p.testBit x then st else 0)) ?_ ?_).trans rfl
    · exact (ev_ix (ev_var (get_set_ne hw ha)) (ev_var (get_set_eq hk))).trans (index_seq (by rw [hl]; exact List.mem_range.mp hx))
    · refine (ev_o (ev_var (get_set_ne hs hi2)) (ev_bit (Z := Z) (p := p) (k := x) (get_set_ne hp hi) (get_set_eq hk)) (mul_r (small_bit _))).trans ?_
      cases p.testBit x with
      | true => rw [if_pos rfl, if_pos rfl, Int.mul_one]
      | false => rw [if_neg Bool.false_ne_true, if_neg Bool.false_ne_true, Int.mul_zero]
  · rw [filter_tt]
    show R.ok (PyData.list _) = R.ok (PyData.list (((List.range m).map _).map PyData.int))
    rw [List.map_map]
    rfl
section
variable {x0 x1 : Option EV.D} {T : List Int} {m r : Nat} {s : PS} {fn : Bool} {x7 x14 x15 x17 x18 : Option EV.D} {Z : Sem0}
theorem inner2 (hT : T.length = 2 ^ m) (hm : m ≤ 4) (hl : s.w.length = m) : ∃ y15 y17 y18, ex Z inL (E14 x0 x1 T m r s fn x7 x14 x15 x17 x18) = .ok (.nx (E14 x0 x1 T m r (round m T s) fn x7 x14 y15 y17 y18)) := by
  have hm2 := pow_le hm
  have main := loop_rel (Z := Z) (δ := E14 x0 x1 T m r s fn x7 x14 x15 x17 x18) (it := .cons (.var 3) .nil) (tg := .one 15) (k := .range) (as := [.int ((2 ^ m : Nat) : Int)]) (emb := fun i : Nat => PyData.int i) (xs := List.range (2 ^ m)) (b := inB)
    (Q := fun s δ => s.w.length = m ∧ ∃ x15 x17 x18, δ = E14 x0 x1 T m r s fn x7 x14 x15 x17 x18) (step := upd1 m T) (s := s) rfl (iter_range (by omega)) ⟨hl, x15, x17, x18, rfl⟩ (fun s δ p hq hp => ?_)
  · obtain ⟨δ', h1, _, a, b, c, rfl⟩ := main
    refine ⟨a, b, c, ?_⟩
    unfold round
    rw [hT]
    exact h1
  · obtain ⟨hl, x15, x17, x18, rfl⟩ := hq
    have hp := List.mem_range.mp hp
    have hb : bindTg (.one 15) (.int (p : Int)) (E14 x0 x1 T m r s fn x7 x14 x15 x17 x18) = .ok (E14 x0 x1 T m r s fn x7 x14 (some (.int p)) x17 x18) := rfl
    have ht : ev Z (.bi .int (.cons (.cmp .GtE (.bi .sum (.cons (.comp (.one 16) .range (.cons (.var 2) .nil) (.bin .BitAnd (.bin .RShift (.var 15) (.var 16)) (.con (.int 1))) (.ix (.var 9) (.var 16))) .nil)) (.var 10)) .nil)) (E14 x0 x1 T m r s fn x7 x14 (some (.int p)) x17 x18) = .ok (.int (told s.w s.b m p)) := by
      refine ev_b (evs1 (told_ev (Z := Z) (t := false) (w := s.w) (b := s.b) (m := m) (p := p) rfl rfl rfl rfl hl (by omega) (by decide) (by decide) (by show 16 < 19; decide))) ?_
      unfold told
      by_cases h : s.b ≤ dot s.w m p
      · rw [if_pos h, decide_eq_true h]; rfl
      · rw [if_neg h, decide_eq_false h]; rfl
    have ho : ∀ (s : PS) (y17 y18 : Option EV.D), ev Z (.ix (.var 4) (.var 15)) (E14 x0 x1 T m r s fn x7 x14 (some (.int p)) y17 y18) = .ok (.int (T.getD p 0)) := fun s y17 y18 => (ev_ix (x := seqD true T) (y := .int (p : Int)) rfl rfl).trans (index_seq (by omega))
    have hn : ev Z (.cmp .NotEq (.var 17) (.ix (.var 4) (.var 15))) (E14 x0 x1 T m r s fn x7 x14 (some (.int p)) (some (.int (told s.w s.b m p))) x18) = .ok (.bool (!decide (told s.w s.b m p = T.getD p 0))) := cmp_ne rfl (ho s _ _)
    by_cases e : told s.w s.b m p = T.getD p 0
    · rw [decide_eq_true e] at hn
      refine ⟨E14 x0 x1 T m r s fn x7 x14 (some (.int p)) (some (.int (told s.w s.b m p))) x18, ?_, upd1_len hl, some (.int p), some (.int (told s.w s.b m p)), x18, ?_⟩
      · refine (bind_at hb).trans ((seq_nx (set_ok ht)).trans ?_)
        exact (seq_nx (δ' := E14 x0 x1 T m r s fn x7 x14 (some (.int p)) (some (.int (told s.w s.b m p))) x18) ((ite_f (tr_of hn)).trans ex_nil)).trans ex_nil
      · unfold upd1
        rw [if_pos e]
    · rw [decide_eq_false e] at hn
      have hs : upd1 m T s p = ⟨(List.range m).map (fun k => s.w.getD k 0 + if p.testBit k then T.getD p 0 - told s.w s.b m p else 0), s.b - (T.getD p 0 - told s.w s.b m p), s.c + 1⟩ := if_neg e
      refine ⟨E14 x0 x1 T m r (upd1 m T s p) fn x7 x14 (some (.int p)) (some (.int (told s.w s.b m p))) (some (.int (T.getD p 0 - told s.w s.b m p))), ?_, upd1_len hl, some (.int p), some (.int (told s.w s.b m p)), some (.int (T.getD p 0 - told s.w s.b m p)), rfl⟩
      refine (bind_at hb).trans ((seq_nx (set_ok ht)).trans ?_)
      refine (seq_nx (δ' := E14 x0 x1 T m r (upd1 m T s p) fn x7 x14 (some (.int p)) (some (.int (told s.w s.b m p))) (some (.int (T.getD p 0 - told s.w s.b m p)))) ((ite_t (tr_of hn)).trans ?_)).trans ex_nil
      rw [hs]
      have hc := step_ev2 (Z := Z) (δ := E14 x0 x1 T m r ⟨s.w, s.b, s.c + 1⟩ fn x7 x14 (some (.int p)) (some (.int (told s.w s.b m p))) (some (.int (T.getD p 0 - told s.w s.b m p)))) (w := s.w) (m := m) (p := p) (a := 9) (im := 2) (ip := 15) (k := 16) (ist := 18) (st := T.getD p 0 - told s.w s.b m p) rfl rfl rfl rfl hl (by omega) (by decide) (by decide) (by decide) (by show 16 < 19; decide)
      refine (seq_nx (δ' := E14 x0 x1 T m r ⟨s.w, s.b, s.c + 1⟩ fn x7 x14 (some (.int p)) (some (.int (told s.w s.b m p))) x18) (set_ok (ev_o (x := .int s.c) (y := .int 1) rfl rfl add_i))).trans ?_
      refine (seq_nx (δ' := E14 x0 x1 T m r ⟨s.w, s.b, s.c + 1⟩ fn x7 x14 (some (.int p)) (some (.int (told s.w s.b m p))) (some (.int (T.getD p 0 - told s.w s.b m p)))) (set_ok (ev_o (ho ⟨s.w, s.b, s.c + 1⟩ _ _) rfl sub_i))).trans ?_
      refine (seq_nx (fresh_ok hc)).trans ?_
      exact (seq_nx (set_ok (ev_o (x := .int s.b) (y := .int (T.getD p 0 - told s.w s.b m p)) rfl rfl sub_i))).trans ex_nil
def st2 (m : Nat) (T : List Int) (q : PS × Bool) (_ : Nat) : PS × Bool := if q.2 = true then q else (round m T q.1, decide ((round m T q.1).c = q.1.c))
theorem outer2 (hT : T.length = 2 ^ m) (hm : m ≤ 4) (hl : s.w.length = m) (hr : r ≤ 200) : ∃ y7 y14 y15 y17 y18, ex Z (.loop (.one 7) .range (.cons (.var 5) .nil) outB) (E14 x0 x1 T m r s false x7 x14 x15 x17 x18) = .ok (.nx (E14 x0 x1 T m r ((List.range r).foldl (st2 m T) (s, false)).1 ((List.range r).foldl (st2 m T) (s, false)).2 y7 y14 y15 y17 y18)) := by
  have main := loop_rel (Z := Z) (δ := E14 x0 x1 T m r s false x7 x14 x15 x17 x18) (it := .cons (.var 5) .nil) (tg := .one 7) (k := .range) (as := [.int r]) (emb := fun i : Nat => PyData.int i) (xs := List.range r) (b := outB)
    (Q := fun q δ => q.1.w.length = m ∧ ∃ x7 x14 x15 x17 x18, δ = E14 x0 x1 T m r q.1 q.2 x7 x14 x15 x17 x18) (step := st2 m T) (s := (s, false)) rfl (iter_range (by omega)) ⟨hl, x7, x14, x15, x17, x18, rfl⟩ (fun q δ p hq hp => ?_)
  · obtain ⟨δ', h1, _, a, b, c, d, e, rfl⟩ := main
    exact ⟨a, b, c, d, e, h1⟩
  · obtain ⟨s, fn⟩ := q
    obtain ⟨hl, x7, x14, x15, x17, x18, rfl⟩ := hq
    have hb : bindTg (.one 7) (.int (p : Int)) (E14 x0 x1 T m r s fn x7 x14 x15 x17 x18) = .ok (E14 x0 x1 T m r s fn (some (.int p)) x14 x15 x17 x18) := rfl
    have hn : ev Z (.not (.var 6)) (E14 x0 x1 T m r s fn (some (.int p)) x14 x15 x17 x18) = .ok (.bool (!fn)) := ev_not (tr_of rfl)
    cases fn with
    | true => exact ⟨E14 x0 x1 T m r s true (some (.int p)) x14 x15 x17 x18, (bind_at hb).trans ((seq_nx ((ite_f (tr_of hn)).trans ex_nil)).trans ex_nil), hl, some (.int p), x14, x15, x17, x18, rfl⟩
    | false =>
      obtain ⟨y15, y17, y18, hi⟩ := inner2 (x0 := x0) (x1 := x1) (T := T) (m := m) (r := r) (s := s) (fn := false) (x7 := some (.int p)) (x14 := some (.int s.c)) (x15 := x15) (x17 := x17) (x18 := x18) (Z := Z) hT hm hl
      have hq : ev Z (.cmp .Eq (.var 11) (.var 14)) (E14 x0 x1 T m r (round m T s) false (some (.int p)) (some (.int s.c)) y15 y17 y18) = .ok (.bool (decide ((round m T s).c = s.c))) := cmp_eq rfl rfl
      refine ⟨E14 x0 x1 T m r (round m T s) (decide ((round m T s).c = s.c)) (some (.int p)) (some (.int s.c)) y15 y17 y18, (bind_at hb).trans ((seq_nx ((ite_t (tr_of hn)).trans ?_)).trans ex_nil), round_len hl, some (.int p), some (.int s.c), y15, y17, y18, rfl⟩
      refine (seq_nx (δ' := E14 x0 x1 T m r s false (some (.int p)) (some (.int s.c)) x15 x17 x18) (set_ok rfl)).trans ((seq_nx hi).trans ?_)
      exact (seq_nx (set_ok hq)).trans ex_nil
end
theorem st2_done {m : Nat} {T : List Int} {s : PS} : ∀ as : List Nat, as.foldl (st2 m T) (s, true) = (s, true)
  | [] => rfl
  | a :: as => st2_done as
theorem st2_learn {m : Nat} {T : List Int} : ∀ (as : List Nat) (s : PS), (as.foldl (st2 m T) (s, false)).1 = iterB (fun s (_ : Nat) => round m T s) (fun s s' => decide (s'.c = s.c)) as s
  | [], s => rfl
  | a :: as, s => by
    unfold iterB
    show (as.foldl (st2 m T) (round m T s, decide ((round m T s).c = s.c))).1 = _
    cases h : decide ((round m T s).c = s.c) with
    | true => rw [st2_done, if_pos rfl]
    | false => rw [if_neg Bool.false_ne_true]; exact st2_learn as _
end Lk27

set_option Elab.async false
set_option linter.all false
set_option maxRecDepth 100000
set_option maxHeartbeats 2000000
/-! k27, the plain law: the law, but for least_weights and what learns. -/
namespace Lk27
open PySem EV
theorem upd1_c {m : Nat} {T : List Int} {s : PS} {p : Nat} : s.c ≤ (upd1 m T s p).c := by
  unfold upd1
  split
  · exact Int.le_refl _
  · show s.c ≤ s.c + 1
    omega
theorem round_c {m : Nat} {T : List Int} {s : PS} : s.c ≤ (round m T s).c := by
  unfold round
  generalize List.range T.length = L
  induction L generalizing s with
  | nil => exact Int.le_refl _
  | cons p L ih => exact Int.le_trans upd1_c (ih (s := upd1 m T s p))
abbrev itL (m : Nat) (T : List Int) : List Nat → PS → PS := iterB (fun s (_ : Nat) => round m T s) (fun s s' => decide (s'.c = s.c))
theorem it_c {m : Nat} {T : List Int} : ∀ (as : List Nat) (s : PS), s.c ≤ (itL m T as s).c
  | [], s => Int.le_refl _
  | a :: as, s => by
    show s.c ≤ (if decide ((round m T s).c = s.c) = true then round m T s else itL m T as (round m T s)).c
    split
    · exact round_c
    · exact Int.le_trans round_c (it_c as _)
theorem it_app {m : Nat} {T : List Int} (bs : List Nat) : ∀ (as : List Nat) (s : PS), (itL m T as s).c ≤ (itL m T (as ++ bs) s).c
  | [], s => it_c bs s
  | a :: as, s => by
    show (if decide ((round m T s).c = s.c) = true then round m T s else itL m T as (round m T s)).c ≤ (if decide ((round m T s).c = s.c) = true then round m T s else itL m T (as ++ bs) (round m T s)).c
    split
    · exact Int.le_refl _
    · exact it_app bs as _
theorem learn_mono {m : Nat} {T : List Int} {r : Nat} {s : PS} (h : r ≤ 200) : (learn m T r s).c ≤ (learn m T 200 s).c := by
  obtain ⟨k, hk⟩ := Nat.exists_eq_add_of_le h
  have e : List.range 200 = List.range r ++ (List.range k).map (r + ·) := by rw [hk, List.range_add]
  show (itL m T (List.range r) s).c ≤ (itL m T (List.range 200) s).c
  rw [e]
  exact it_app _ _ _
theorem eqv_ans (s : PS) : cmpop .NotEq (ans s) (ans s) = .ok false := by
  have hs : SeqAt.shaped (ans s) = true := by
    show ((((PyData.canLayAll0 (s.w.map .int)) && true) && (true && true)) && decide (max (max ((PyData.depthAll (s.w.map .int) + 1)) (max 0 0) + 1) (max 0 0) + 1 ≤ 64)) = true
    rw [lay_ints, depth_ints]
    rfl
  have he : PyData.eqv (ans s) (ans s) = true := by
    show (((PyData.eqvAll (s.w.map .int) (s.w.map .int)) && ((s.b == s.b) && true)) && ((s.c == s.c) && true)) = true
    rw [eqv_ints]
    simp
  show (if (SeqAt.shaped (ans s) && SeqAt.shaped (ans s)) = true then R.ok (!(PyData.eqv (ans s) (ans s))) else .bad) = _
  rw [hs, he]
  rfl
def isN : EV.D → Bool
  | .none => true
  | _ => false
theorem isnot_none (d : EV.D) : cmpop .IsNot d .none = .ok (!isN d) := by cases d <;> rfl
theorem is_none (d : EV.D) : cmpop .Is d .none = .ok (isN d) := by cases d <;> rfl
theorem eq_bool (a b : Bool) : cmpop .Eq (.bool a) (.bool b) = .ok (a == b) := rfl
theorem law_ok (H : ∀ (m : Nat) (T : List Int), IsT m T → ∃ d, cl 6 7 [tab T, .int 4] = .ok d ∧ (!isN d) = (small (learn m T 200 (ps0 m)).w (learn m T 200 (ps0 m)).b && decide (tabOf (learn m T 200 (ps0 m)).w (learn m T 200 (ps0 m)).b m = T))) (ns : List Int) : cl 7 14 [.list (ns.map .int)] = .ok (.bool true) := by
  obtain ⟨c, hc⟩ := cell ns 5
  obtain ⟨l, hl, hd⟩ := draws c 5
  have g0 : l.getD 0 0 = l.getD (0 : Int).toNat 0 := rfl
  obtain ⟨m, hm, hm4⟩ : ∃ m : Nat, (l.getD 0 0).fmod 5 = m ∧ m ≤ 4 := by
    have h3 := Int.fmod_nonneg_of_pos (l.getD 0 0) (show (0 : Int) < 5 by decide)
    have h4 := Int.fmod_lt_of_pos (l.getD 0 0) (show (0 : Int) < 5 by decide)
    obtain ⟨k, hk⟩ := Int.eq_ofNat_of_zero_le h3
    exact ⟨k, hk, by omega⟩
  obtain ⟨T, hT, ht⟩ := table (l := l) (m := m) hm4 hl 5
  obtain ⟨r, hr, hr1, hr2⟩ : ∃ r : Nat, (l.getD 40 0).fmod 12 + 1 = r ∧ 1 ≤ r ∧ r ≤ 200 := by
    have h3 := Int.fmod_nonneg_of_pos (l.getD 40 0) (show (0 : Int) < 12 by decide)
    have h4 := Int.fmod_lt_of_pos (l.getD 40 0) (show (0 : Int) < 12 by decide)
    obtain ⟨k, hk⟩ := Int.eq_ofNat_of_zero_le h3
    exact ⟨k + 1, by omega, by omega, by omega⟩
  obtain ⟨d, hd7, hdn⟩ := H m T hT
  have hlr := learn_len (m := m) (n := r) (T := T) (s := ps0 m) (by simp [ps0])
  have hl2 := learn_len (m := m) (n := 200) (T := T) (s := ps0 m) (by simp [ps0])
  have hmono := learn_mono (m := m) (T := T) (s := ps0 m) hr2
  have hj := judge hT (w := (learn m T 200 (ps0 m)).w) (b := (learn m T 200 (ps0 m)).b) hl2 1
  obtain ⟨y7, y14, y15, y17, y18, ho⟩ := outer2 (x0 := some (.list (ns.map .int))) (x1 := some (seqD false l)) (T := T) (m := m) (r := r) (s := ps0 m) (x7 := none) (x14 := none) (x15 := none) (x17 := none) (x18 := none) (Z := Zn 6) hT.len hm4 (by simp [ps0]) hr2
  have hsl : ((List.range r).foldl (st2 m T) (ps0 m, false)).1 = learn m T r (ps0 m) := st2_learn _ _
  rw [hsl] at ho
  obtain ⟨fn, hfn⟩ : ∃ fn, ((List.range r).foldl (st2 m T) (ps0 m, false)).2 = fn := ⟨_, rfl⟩
  rw [hfn] at ho
  refine run_rt (Z := Zn 6) (f := f14) (δ := [some (.list (ns.map .int)), none, none, none, none, none, none, none, none, none, none, none, none, none, none, none, none, none, none]) rfl rfl ?_
  have e1 : ev (Zn 6) (.call 12 (.cons (.call 11 (.cons (.var 0) (.cons (.con (.int 0)) .nil)) 0) (.cons (.con (.int 60)) .nil)) 0) [some (.list (ns.map .int)), none, none, none, none, none, none, none, none, none, none, none, none, none, none, none, none, none, none] = .ok (seqD false l) :=
    ev_c (ds := [.int c, .int 60]) (evs2 (ev_c (ds := [.list (ns.map .int), .int 0]) (evs2 rfl rfl) hc) rfl) hd
  refine (seq_nx (δ' := [some (.list (ns.map .int)), some (seqD false l), none, none, none, none, none, none, none, none, none, none, none, none, none, none, none, none, none]) (set_ok e1)).trans ?_
  have e2 : ev (Zn 6) (.bin .Mod (.ix (.var 1) (.con (.int 0))) (.con (.int 5))) [some (.list (ns.map .int)), some (seqD false l), none, none, none, none, none, none, none, none, none, none, none, none, none, none, none, none, none] = .ok (.int m) := by
    rw [← hm]
    exact ev_o ((ev_ix (x := seqD false l) (y := .int 0) rfl rfl).trans (index_int (i := 0) (by decide) (by rw [hl]; decide))) rfl (mod_lit (by decide))
  refine (seq_nx (δ' := [some (.list (ns.map .int)), some (seqD false l), some (.int m), none, none, none, none, none, none, none, none, none, none, none, none, none, none, none, none]) (set_ok e2)).trans ?_
  refine (seq_nx (δ' := [some (.list (ns.map .int)), some (seqD false l), some (.int m), some (.int ((2 ^ m : Nat) : Int)), none, none, none, none, none, none, none, none, none, none, none, none, none, none, none]) (set_ok (ev_o (x := .int 1) (y := .int m) rfl rfl (shl_one (by omega))))).trans ?_
  have e4 : ev (Zn 6) (.call 13 (.cons (.var 1) (.cons (.con (.int 1)) (.cons (.var 2) .nil))) 0) [some (.list (ns.map .int)), some (seqD false l), some (.int m), some (.int ((2 ^ m : Nat) : Int)), none, none, none, none, none, none, none, none, none, none, none, none, none, none, none] = .ok (seqD true T) := ev_c (ds := [seqD false l, .int 1, .int m]) (evs_cons rfl (evs2 rfl rfl)) ht
  refine (seq_nx (δ' := [some (.list (ns.map .int)), some (seqD false l), some (.int m), some (.int ((2 ^ m : Nat) : Int)), some (seqD true T), none, none, none, none, none, none, none, none, none, none, none, none, none, none]) (set_ok e4)).trans ?_
  have e5 : ev (Zn 6) (.bin .Add (.bin .Mod (.ix (.var 1) (.con (.int 40))) (.con (.int 12))) (.con (.int 1))) [some (.list (ns.map .int)), some (seqD false l), some (.int m), some (.int ((2 ^ m : Nat) : Int)), some (seqD true T), none, none, none, none, none, none, none, none, none, none, none, none, none, none] = .ok (.int r) := by
    rw [← hr]
    exact ev_o (ev_o ((ev_ix (x := seqD false l) (y := .int 40) rfl rfl).trans (index_int (i := 40) (by decide) (by rw [hl]; decide))) rfl (mod_lit (by decide))) rfl add_i
  refine (seq_nx (δ' := [some (.list (ns.map .int)), some (seqD false l), some (.int m), some (.int ((2 ^ m : Nat) : Int)), some (seqD true T), some (.int r), none, none, none, none, none, none, none, none, none, none, none, none, none]) (set_ok e5)).trans ?_
  have e6 : ev (Zn 6) (.comp (.one 16) .range (.cons (.var 2) .nil) (.con (.bool true)) (.con (.int 0))) [some (.list (ns.map .int)), some (seqD false l), some (.int m), some (.int ((2 ^ m : Nat) : Int)), some (seqD true T), some (.int r), none, none, none, none, none, none, none, none, none, none, none, none, none] = .ok (seqD false (List.replicate m 0)) := by
    refine (comp_plain (as := [.int m]) (emb := fun i : Nat => PyData.int i) (xs := List.range m) (b := fun _ => true) (g := fun _ => PyData.int 0) rfl (iter_range (by omega)) (fun x hx => rfl) (fun x hx _ => rfl)).trans ?_
    rw [filter_tt, List.map_const', List.length_range]
    unfold seqD
    rw [if_neg Bool.false_ne_true, List.map_replicate]
  refine (seq_nx (δ' := [some (.list (ns.map .int)), some (seqD false l), some (.int m), some (.int ((2 ^ m : Nat) : Int)), some (seqD true T), some (.int r), none, none, none, some (seqD false (List.replicate m 0)), some (.int 0), some (.int 0), none, none, none, none, none, none, none]) (exPars_ok (ds := [seqD false (List.replicate m 0), .int 0, .int 0]) (evs_cons e6 (evs2 rfl rfl)) rfl)).trans ?_
  refine (seq_nx (δ' := E14 (some (.list (ns.map .int))) (some (seqD false l)) T m r (ps0 m) false none none none none none) (set_ok rfl)).trans ?_
  refine (seq_nx ho).trans ?_
  have e10 : ev (Zn 6) (.call 10 (.cons (.var 4) (.cons (.var 5) .nil)) 0) (E14 (some (.list (ns.map .int))) (some (seqD false l)) T m r (learn m T r (ps0 m)) fn y7 y14 y15 y17 y18) = .ok (ans (learn m T r (ps0 m))) := ev_c (ds := [tab T, .int r]) (evs2 rfl rfl) (learnt hT hr1 hr2 1)
  have e11 : ev (Zn 6) (.tup (.cons (.tup (.cons (.bi .tuple (.cons (.var 9) .nil)) (.cons (.var 10) .nil))) (.cons (.var 11) .nil))) (E14 (some (.list (ns.map .int))) (some (seqD false l)) T m r (learn m T r (ps0 m)) fn y7 y14 y15 y17 y18) = .ok (ans (learn m T r (ps0 m))) := ev_tup (evs2 (ev_tup (evs2 (ev_b (evs1 rfl) rfl) rfl)) rfl)
  refine (seq_nx ((ite_f (tr_of (ev_cmp e10 e11 (eqv_ans _)))).trans ex_nil)).trans ?_
  have e12 : ev (Zn 6) (.call 10 (.cons (.var 4) (.cons (.con (.int 200)) .nil)) 0) (E14 (some (.list (ns.map .int))) (some (seqD false l)) T m r (learn m T r (ps0 m)) fn y7 y14 y15 y17 y18) = .ok (ans (learn m T 200 (ps0 m))) := ev_c (ds := [tab T, .int ((200 : Nat) : Int)]) (evs2 rfl rfl) (learnt hT (r := 200) (by decide) (by decide) 1)
  obtain ⟨δ2, hδ2⟩ : ∃ δ2 : EV.Env, δ2 = [some (.list (ns.map .int)), some (seqD false l), some (.int m), some (.int ((2 ^ m : Nat) : Int)), some (seqD true T), some (.int r), some (.bool fn), y7, none, some (seqD false (learn m T r (ps0 m)).w), some (.int (learn m T r (ps0 m)).b), some (.int (learn m T r (ps0 m)).c), some (.tuple [.tuple ((learn m T 200 (ps0 m)).w.map .int), .int (learn m T 200 (ps0 m)).b]), some (.int (learn m T 200 (ps0 m)).c), y14, y15, none, y17, y18] := ⟨_, rfl⟩
  refine (seq_nx (δ' := δ2) (exSets_ok e12 (by rw [hδ2]; rfl))).trans ?_
  have e13 : ev (Zn 6) (.cmp .IsNot (.call 7 (.cons (.var 4) (.cons (.con (.int 4)) .nil)) 0) (.con .none)) δ2 = .ok (.bool (!isN d)) := by
    rw [hδ2]
    exact ev_cmp (ev_c (ds := [tab T, .int 4]) (evs2 rfl rfl) hd7) rfl (isnot_none d)
  refine (seq_nx (set_ok e13)).trans ?_
  rw [hdn]
  have e14 : ev (Zn 6) (.bop true (.cmp .Eq (.call 5 (.cons (.var 4) (.cons (.var 12) .nil)) 0) (.var 8)) (.cmp .GtE (.var 13) (.var 11))) (δ2.set 8 (some (.bool (small (learn m T 200 (ps0 m)).w (learn m T 200 (ps0 m)).b && decide (tabOf (learn m T 200 (ps0 m)).w (learn m T 200 (ps0 m)).b m = T))))) = .ok (.bool true) := by
    rw [hδ2]
    refine (ev_and (ev_cmp (ev_c (ds := [tab T, .tuple [tab (learn m T 200 (ps0 m)).w, .int (learn m T 200 (ps0 m)).b]]) (evs2 rfl rfl) hj) rfl (eq_bool _ _)) (fun _ => cmp_ge rfl rfl)).trans ?_
    rw [beq_self_eq_true, decide_eq_true hmono]
    rfl
  exact seq_out (ret_ok e14) (fun _ z => nomatch z)
end Lk27

set_option Elab.async false
set_option linter.all false
set_option maxRecDepth 100000
set_option maxHeartbeats 2000000
/-! k27, the plain law: bound_for. -/
namespace EV
open PySem
/-- [e for (x, y) in zip(..) if c] -/
theorem comp_pair {Z : Sem0} {δ : Env} {it c e : Tm} {k : Itk} {as : List D} {α : Type} {f h : α → D} {xs : List α} {i j : Nat} {b : α → Bool} {g : α → D} (hi : evs Z it δ = .ok as) (hk : iterate k as = .ok (xs.map fun x => .tuple [f x, h x])) (hc : ∀ x ∈ xs, ((ev Z c ((δ.set i (some (f x))).set j (some (h x)))).bind truth) = .ok (b x))
    (he : ∀ x ∈ xs, b x = true → ev Z e ((δ.set i (some (f x))).set j (some (h x))) = .ok (g x)) : ev Z (.comp (.tup [i, j]) k it c e) δ = .ok (.list ((xs.filter b).map g)) := by
  have key : ∀ xs : List α, (∀ x ∈ xs, ((ev Z c ((δ.set i (some (f x))).set j (some (h x)))).bind truth) = .ok (b x)) → (∀ x ∈ xs, b x = true → ev Z e ((δ.set i (some (f x))).set j (some (h x))) = .ok (g x)) →
      compL (.tup [i, j]) (fun δ' => ((ev Z c δ').bind truth).calm) (fun δ' => (ev Z e δ').calm) δ (xs.map fun x => .tuple [f x, h x]) = .ok ((xs.filter b).map g) := by
    intro xs
    induction xs with
    | nil => intro _ _; rfl
    | cons x xs ih =>
      intro h1 h2
      have ih' := ih (fun y hy => h1 y (List.mem_cons_of_mem _ hy)) (fun y hy => h2 y (List.mem_cons_of_mem _ hy))
      show (R.bind ((ev Z c ((δ.set i (some (f x))).set j (some (h x)))).bind truth).calm fun b' => _) = _
      rw [h1 x List.mem_cons_self]
      show (if b x = true then _ else _) = _
      by_cases hb : b x = true
      · rw [if_pos hb]
        show (R.bind (ev Z e ((δ.set i (some (f x))).set j (some (h x)))).calm fun y => _) = _
        rw [h2 x List.mem_cons_self hb]
        show (R.bind (compL _ _ _ _ _) _) = _
        rw [ih', List.filter_cons, if_pos hb]
        rfl
      · rw [if_neg hb, List.filter_cons, if_neg hb]
        exact ih'
  show ((evs Z it δ).bind fun as => (iterate k as).bind fun ds => (compL (.tup [i, j]) (fun δ' => ((ev Z c δ').bind truth).calm) (fun δ' => (ev Z e δ').calm) δ ds).bind fun ys => R.ok (PyData.list ys)) = _
  rw [hi]
  show (R.bind (iterate k as) _) = _
  rw [hk]
  show (R.bind (compL _ _ _ _ _) _) = _
  rw [key xs hc he]
theorem zip_ints : ∀ (n : Nat) (a b : Nat → D), zipL ((List.range n).map a) ((List.range n).map b) = (List.range n).map fun p => .tuple [a p, b p]
  | 0, _, _ => rfl
  | n + 1, a, b => by
    rw [List.range_succ_eq_map, List.map_cons, List.map_cons, List.map_cons, List.map_map, List.map_map, List.map_map]
    show PyData.tuple [a 0, b 0] :: zipL _ _ = _
    rw [zip_ints n (a ∘ Nat.succ) (b ∘ Nat.succ)]
    rfl
theorem maxI_top : ∀ (l : List Int) (a : Int), a ≤ maxI l a ∧ (∀ i ∈ l, i ≤ maxI l a) ∧ (maxI l a = a ∨ maxI l a ∈ l)
  | [], a => ⟨Int.le_refl _, fun _ h => by simp at h, .inl rfl⟩
  | x :: r, a => by
    obtain ⟨y, hy, y1, y2, y3⟩ : ∃ y, (if x > a then x else a) = y ∧ a ≤ y ∧ x ≤ y ∧ (y = a ∨ y = x) := by
      split
      · exact ⟨x, rfl, by omega, Int.le_refl _, .inr rfl⟩
      · exact ⟨a, rfl, Int.le_refl _, by omega, .inl rfl⟩
    have e : maxI (x :: r) a = maxI r (if x > a then x else a) := rfl
    rw [hy] at e
    obtain ⟨h1, h2, h3⟩ := maxI_top r y
    rw [e]
    refine ⟨by omega, fun i hi => ?_, ?_⟩
    · rcases List.mem_cons.mp hi with rfl | hi
      · omega
      · exact h2 i hi
    · rcases h3 with h3 | h3
      · rw [h3]
        rcases y3 with y3 | y3
        · exact .inl y3
        · rw [y3]; exact .inr List.mem_cons_self
      · exact .inr (List.mem_cons_of_mem _ h3)
theorem minI_bot : ∀ (l : List Int) (a : Int), minI l a ≤ a ∧ (∀ i ∈ l, minI l a ≤ i) ∧ (minI l a = a ∨ minI l a ∈ l)
  | [], a => ⟨Int.le_refl _, fun _ h => by simp at h, .inl rfl⟩
  | x :: r, a => by
    obtain ⟨y, hy, y1, y2, y3⟩ : ∃ y, (if x < a then x else a) = y ∧ y ≤ a ∧ y ≤ x ∧ (y = a ∨ y = x) := by
      split
      · exact ⟨x, rfl, by omega, Int.le_refl _, .inr rfl⟩
      · exact ⟨a, rfl, Int.le_refl _, by omega, .inl rfl⟩
    have e : minI (x :: r) a = minI r (if x < a then x else a) := rfl
    rw [hy] at e
    obtain ⟨h1, h2, h3⟩ := minI_bot r y
    rw [e]
    refine ⟨by omega, fun i hi => ?_, ?_⟩
    · rcases List.mem_cons.mp hi with rfl | hi
      · omega
      · exact h2 i hi
    · rcases h3 with h3 | h3
      · rw [h3]
        rcases y3 with y3 | y3
        · exact .inl y3
        · rw [y3]; exact .inr List.mem_cons_self
      · exact .inr (List.mem_cons_of_mem _ h3)
/-- the greatest, the least of a list that is not empty -/
theorem max_seq {l : List Int} (h : l ≠ []) : ∃ a, bicall .max [seqD false l] = .ok (.int a) ∧ a ∈ l ∧ ∀ i ∈ l, i ≤ a := by
  cases l with
  | nil => exact absurd rfl h
  | cons x r =>
    obtain ⟨h1, h2, h3⟩ := maxI_top r x
    refine ⟨maxI r x, ?_, ?_, fun i hi => ?_⟩
    · show (match ints? ((x :: r).map PyData.int) with | some (x :: l) => R.ok (PyData.int (maxI l x)) | _ => .bad) = _
      rw [ints_map]
    · rcases h3 with h3 | h3
      · rw [h3]; exact List.mem_cons_self
      · exact List.mem_cons_of_mem _ h3
    · rcases List.mem_cons.mp hi with rfl | hi
      · exact h1
      · exact h2 i hi
theorem min_seq {l : List Int} (h : l ≠ []) : ∃ a, bicall .min [seqD false l] = .ok (.int a) ∧ a ∈ l ∧ ∀ i ∈ l, a ≤ i := by
  cases l with
  | nil => exact absurd rfl h
  | cons x r =>
    obtain ⟨h1, h2, h3⟩ := minI_bot r x
    refine ⟨minI r x, ?_, ?_, fun i hi => ?_⟩
    · show (match ints? ((x :: r).map PyData.int) with | some (x :: l) => R.ok (PyData.int (minI l x)) | _ => .bad) = _
      rw [ints_map]
    · rcases h3 with h3 | h3
      · rw [h3]; exact List.mem_cons_self
      · exact List.mem_cons_of_mem _ h3
    · rcases List.mem_cons.mp hi with rfl | hi
      · exact h1
      · exact h2 i hi
end EV
namespace Lk27
open PySem EV
theorem tab_range {m : Nat} {T : List Int} (h : T.length = 2 ^ m) : T = (List.range (2 ^ m)).map fun p => T.getD p 0 := by
  refine List.ext_getElem (by simp [h]) fun i h1 h2 => ?_
  rw [List.getElem_map, List.getElem_range, List.getD_eq_getElem?_getD, List.getElem?_eq_getElem h1]
  rfl
theorem tabOf_iff {m : Nat} {T w : List Int} {b : Int} (h : IsT m T) : tabOf w b m = T ↔ ∀ p, p < 2 ^ m → ((T.getD p 0 = 1 → b ≤ dot w m p) ∧ (T.getD p 0 = 0 → dot w m p < b)) := by
  have hb : ∀ p, p < 2 ^ m → (T.getD p 0 = 0 ∨ T.getD p 0 = 1) := fun p hp => by
    refine h.bit _ ?_
    rw [List.getD_eq_getElem?_getD, List.getElem?_eq_getElem (by rw [h.len]; exact hp)]
    exact List.getElem_mem _
  constructor
  · intro e p hp
    have e2 : told w b m p = T.getD p 0 := by
      rw [← e]
      unfold tabOf
      rw [List.getD_eq_getElem?_getD, List.getElem?_map, List.getElem?_range hp]
      rfl
    unfold told at e2
    split at e2 <;> rw [← e2] <;> constructor <;> intro z <;> first | assumption | omega
  · intro q
    rw [tab_range h.len]
    unfold tabOf
    refine List.map_congr_left fun p hp => ?_
    have hp := List.mem_range.mp hp
    obtain ⟨q1, q2⟩ := q p hp
    unfold told
    rcases hb p hp with z | z
    · rw [z, if_neg (by have := q2 z; omega)]
    · rw [z, if_pos (q1 z)]
/-- bound_for answers with a bound just where there is one -/
theorem bound_for {m : Nat} {T w : List Int} (h : IsT m T) (hl : w.length = m) (n : Nat) : ∃ d, cl (n + 1) 9 [tab T, tab w] = .ok d ∧ (isN d = true ∧ (∀ b, tabOf w b m ≠ T) ∨ ∃ b, d = .int b ∧ tabOf w b m = T) := by
  have hm := h.m4
  have hm2 := pow_le hm
  have hl2 : (w.map PyData.int).length = m := by rw [List.length_map, hl]
  have hT2 : (T.map PyData.int).length = 2 ^ m := by rw [List.length_map, h.len]
  have hb : ∀ p, p < 2 ^ m → (T.getD p 0 = 0 ∨ T.getD p 0 = 1) := fun p hp => by
    refine h.bit _ ?_
    rw [List.getD_eq_getElem?_getD, List.getElem?_eq_getElem (by rw [h.len]; exact hp)]
    exact List.getElem_mem _
  obtain ⟨S, hS⟩ : ∃ S, S = (List.range (2 ^ m)).map (dot w m) := ⟨_, rfl⟩
  obtain ⟨Y, hY⟩ : ∃ Y, Y = ((List.range (2 ^ m)).filter fun p => decide (T.getD p 0 = 1)).map (dot w m) := ⟨_, rfl⟩
  obtain ⟨O, hO⟩ : ∃ O, O = ((List.range (2 ^ m)).filter fun p => decide (T.getD p 0 = 0)).map (dot w m) := ⟨_, rfl⟩
  have mY : ∀ i, i ∈ Y ↔ ∃ p, p < 2 ^ m ∧ T.getD p 0 = 1 ∧ dot w m p = i := fun i => by
    rw [hY]
    simp only [List.mem_map, List.mem_filter, List.mem_range, decide_eq_true_eq]
    exact ⟨fun ⟨p, ⟨a, b⟩, c⟩ => ⟨p, a, b, c⟩, fun ⟨p, a, b, c⟩ => ⟨p, ⟨a, b⟩, c⟩⟩
  have mO : ∀ i, i ∈ O ↔ ∃ p, p < 2 ^ m ∧ T.getD p 0 = 0 ∧ dot w m p = i := fun i => by
    rw [hO]
    simp only [List.mem_map, List.mem_filter, List.mem_range, decide_eq_true_eq]
    exact ⟨fun ⟨p, ⟨a, b⟩, c⟩ => ⟨p, a, b, c⟩, fun ⟨p, a, b, c⟩ => ⟨p, ⟨a, b⟩, c⟩⟩
  have e3 : ev (Zn n) (.comp (.one 6) .range (.cons (.bi .len (.cons (.var 0) .nil)) .nil) (.con (.bool true)) (.bi .sum (.cons (.comp (.one 9) .range (.cons (.var 2) .nil) (.bin .BitAnd (.bin .RShift (.var 6) (.var 9)) (.con (.int 1))) (.ix (.var 1) (.var 9))) .nil))) [some (tab T), some (seqD true w), some (.int m), none, none, none, none, none, none, none] = .ok (seqD false S) := by
    refine (comp_plain (as := [.int ((2 ^ m : Nat) : Int)]) (emb := fun i : Nat => PyData.int i) (xs := List.range (2 ^ m)) (b := fun _ => true) (g := fun p => PyData.int (dot w m p)) (evs1 (ev_b (evs1 rfl) (by rw [len_tup, hT2]))) (iter_range (by omega)) (fun x hx => rfl) (fun p hp _ => ?_)).trans ?_
    · exact ev_dot (t := true) (w := w) (m := m) (p := p) rfl rfl rfl hl (by omega) (by decide) (by decide) (by show 9 < 10; decide)
    · rw [filter_tt, hS]
      unfold seqD
      rw [if_neg Bool.false_ne_true, List.map_map]
      rfl
  have hz : iterate .zip [seqD false S, tab T] = .ok ((List.range (2 ^ m)).map fun p => .tuple [.int (dot w m p), .int (T.getD p 0)]) := by
    have eT : T.map PyData.int = (List.range (2 ^ m)).map fun p => PyData.int (T.getD p 0) := by
      have := congrArg (List.map PyData.int) (tab_range h.len)
      rw [List.map_map] at this
      exact this
    show R.ok (zipL (S.map .int) (T.map .int)) = _
    rw [eT, hS, List.map_map]
    exact congrArg R.ok (zip_ints (2 ^ m) (fun p => PyData.int (dot w m p)) fun p => PyData.int (T.getD p 0))
  have e4 : ∀ (v : Int) (x4 x5 : Option EV.D), ev (Zn n) (.comp (.tup [7, 8]) .zip (.cons (.var 3) (.cons (.var 0) .nil)) (.cmp .Eq (.var 8) (.con (.int v))) (.var 7)) [some (tab T), some (seqD true w), some (.int m), some (seqD false S), x4, x5, none, none, none, none] = .ok (seqD false (((List.range (2 ^ m)).filter fun p => decide (T.getD p 0 = v)).map (dot w m))) := fun v x4 x5 => by
    refine (comp_pair (as := [seqD false S, tab T]) (f := fun p => PyData.int (dot w m p)) (h := fun p => PyData.int (T.getD p 0)) (xs := List.range (2 ^ m)) (b := fun p => decide (T.getD p 0 = v)) (g := fun p => PyData.int (dot w m p)) (evs2 rfl rfl) hz (fun p hp => tr_of (cmp_eq rfl rfl)) (fun p hp _ => rfl)).trans ?_
    unfold seqD
    rw [if_neg Bool.false_ne_true, List.map_map]
    rfl
  obtain ⟨δ, hδ⟩ : ∃ δ : EV.Env, δ = [some (tab T), some (seqD true w), some (.int m), some (seqD false S), some (seqD false Y), some (seqD false O), none, none, none, none] := ⟨_, rfl⟩
  have lY : ev (Zn n) (.cmp .Gt (.bi .len (.cons (.var 4) .nil)) (.con (.int 0))) δ = .ok (.bool (decide ((0 : Int) < (Y.map PyData.int).length))) := by rw [hδ]; exact cmp_gt (ev_b (evs1 rfl) rfl) rfl
  have lO : ev (Zn n) (.cmp .Gt (.bi .len (.cons (.var 5) .nil)) (.con (.int 0))) δ = .ok (.bool (decide ((0 : Int) < (O.map PyData.int).length))) := by rw [hδ]; exact cmp_gt (ev_b (evs1 rfl) rfl) rfl
  have go : ∀ (f : Fn) (d : EV.D) (rest : Sm), ex (Zn n) rest δ = .ok (.rt d) → ex (Zn n) (.seq (.set 2 (.bi .len (.cons (.var 1) .nil))) (.seq (.fresh 3 (.comp (.one 6) .range (.cons (.bi .len (.cons (.var 0) .nil)) .nil) (.con (.bool true)) (.bi .sum (.cons (.comp (.one 9) .range (.cons (.var 2) .nil) (.bin .BitAnd (.bin .RShift (.var 6) (.var 9)) (.con (.int 1))) (.ix (.var 1) (.var 9))) .nil)))) (.seq (.fresh 4 (.comp (.tup [7, 8]) .zip (.cons (.var 3) (.cons (.var 0) .nil)) (.cmp .Eq (.var 8) (.con (.int 1))) (.var 7))) (.seq (.fresh 5 (.comp (.tup [7, 8]) .zip (.cons (.var 3) (.cons (.var 0) .nil)) (.cmp .Eq (.var 8) (.con (.int 0))) (.var 7))) rest)))) [some (tab T), some (seqD true w), none, none, none, none, none, none, none, none] = .ok (.rt d) := fun f d rest hr => by
    refine (seq_nx (δ' := [some (tab T), some (seqD true w), some (.int m), none, none, none, none, none, none, none]) (set_ok (ev_b (evs1 rfl) (by show R.ok (PyData.int (w.map PyData.int).length) = _; rw [hl2])))).trans ?_
    refine (seq_nx (δ' := [some (tab T), some (seqD true w), some (.int m), some (seqD false S), none, none, none, none, none, none]) (fresh_ok e3)).trans ?_
    refine (seq_nx (δ' := [some (tab T), some (seqD true w), some (.int m), some (seqD false S), some (seqD false Y), none, none, none, none, none]) (fresh_ok (by rw [e4 1 none none, ← hY]))).trans ?_
    refine (seq_nx (δ' := δ) ((fresh_ok (d := seqD false O) (by rw [e4 0 _ none, ← hO])).trans (by rw [hδ]; rfl))).trans ?_
    exact hr
  have run : ∀ {d : EV.D}, ex (Zn n) (.seq (.ite (.bop true (.cmp .Gt (.bi .len (.cons (.var 4) .nil)) (.con (.int 0))) (.bop true (.cmp .Gt (.bi .len (.cons (.var 5) .nil)) (.con (.int 0))) (.cmp .GtE (.bi .max (.cons (.var 5) .nil)) (.bi .min (.cons (.var 4) .nil))))) (.seq (.ret (.con .none)) .nil) .nil) (.seq (.ret (.ite (.cmp .Gt (.bi .len (.cons (.var 5) .nil)) (.con (.int 0))) (.bin .Add (.bi .max (.cons (.var 5) .nil)) (.con (.int 1))) (.bi .min (.cons (.var 4) .nil)))) .nil)) δ = .ok (.rt d) → cl (n + 1) 9 [tab T, tab w] = .ok d := fun hr => run_rt (Z := Zn n) (f := f9) (δ := [some (tab T), some (seqD true w), none, none, none, none, none, none, none, none]) rfl rfl (go f9 _ _ hr)
  have pos : 0 < 2 ^ m := Nat.pow_pos (by decide)
  have vY : envGet δ 4 = .ok (seqD false Y) := by rw [hδ]; rfl
  have vO : envGet δ 5 = .ok (seqD false O) := by rw [hδ]; rfl
  by_cases hOe : O = []
  · have hYe : Y ≠ [] := fun z => by
      rcases hb 0 pos with q | q
      · have : dot w m 0 ∈ O := (mO _).mpr ⟨0, pos, q, rfl⟩
        rw [hOe] at this
        simp at this
      · have : dot w m 0 ∈ Y := (mY _).mpr ⟨0, pos, q, rfl⟩
        rw [z] at this
        simp at this
    obtain ⟨c, hc, hcY, hcm⟩ := min_seq hYe
    rw [hOe] at lO
    have t1 := ev_and (b := .bop true (.cmp .Gt (.bi .len (.cons (.var 5) .nil)) (.con (.int 0))) (.cmp .GtE (.bi .max (.cons (.var 5) .nil)) (.bi .min (.cons (.var 4) .nil)))) (l := false) lY (fun _ => (ev_and (l := false) lO (fun z => by simp at z)).trans rfl)
    rw [Bool.and_false] at t1
    refine ⟨.int c, run ((seq_nx ((ite_f (tr_of t1)).trans ex_nil)).trans (seq_out (ret_ok ?_) (fun _ z => nomatch z))), .inr ⟨c, rfl, (tabOf_iff h).mpr fun p hp => ⟨fun z => hcm _ ((mY _).mpr ⟨p, hp, z, rfl⟩), fun z => ?_⟩⟩⟩
    · rw [ev_ite (tr_of lO), if_neg (by simp)]
      exact ev_b (evs1 (ev_var vY)) hc
    · have : dot w m p ∈ O := (mO _).mpr ⟨p, hp, z, rfl⟩
      rw [hOe] at this
      simp at this
  · obtain ⟨a, ha, haO, ham⟩ := max_seq hOe
    have lO1 : decide ((0 : Int) < (O.map PyData.int).length) = true := decide_eq_true (by rw [List.length_map]; have := List.length_pos_iff.mpr hOe; omega)
    rw [lO1] at lO
    have hret : ev (Zn n) (.ite (.cmp .Gt (.bi .len (.cons (.var 5) .nil)) (.con (.int 0))) (.bin .Add (.bi .max (.cons (.var 5) .nil)) (.con (.int 1))) (.bi .min (.cons (.var 4) .nil))) δ = .ok (.int (a + 1)) := by
      rw [ev_ite (tr_of lO), if_pos rfl]
      exact ev_o (ev_b (evs1 (ev_var vO)) ha) rfl add_i
    by_cases hYe : Y = []
    · rw [hYe] at lY
      have t1 := ev_and (b := .bop true (.cmp .Gt (.bi .len (.cons (.var 5) .nil)) (.con (.int 0))) (.cmp .GtE (.bi .max (.cons (.var 5) .nil)) (.bi .min (.cons (.var 4) .nil)))) (l := false) lY (fun z => by simp at z)
      rw [Bool.and_false] at t1
      refine ⟨.int (a + 1), run ((seq_nx ((ite_f (tr_of t1)).trans ex_nil)).trans (seq_out (ret_ok hret) (fun _ z => nomatch z))), .inr ⟨a + 1, rfl, (tabOf_iff h).mpr fun p hp => ⟨fun z => ?_, fun z => ?_⟩⟩⟩
      · have : dot w m p ∈ Y := (mY _).mpr ⟨p, hp, z, rfl⟩
        rw [hYe] at this
        simp at this
      · have := ham _ ((mO _).mpr ⟨p, hp, z, rfl⟩)
        omega
    · obtain ⟨c, hc, hcY, hcm⟩ := min_seq hYe
      have lY1 : decide ((0 : Int) < (Y.map PyData.int).length) = true := decide_eq_true (by rw [List.length_map]; have := List.length_pos_iff.mpr hYe; omega)
      rw [lY1] at lY
      have t1 : ev (Zn n) (.bop true (.cmp .Gt (.bi .len (.cons (.var 4) .nil)) (.con (.int 0))) (.bop true (.cmp .Gt (.bi .len (.cons (.var 5) .nil)) (.con (.int 0))) (.cmp .GtE (.bi .max (.cons (.var 5) .nil)) (.bi .min (.cons (.var 4) .nil))))) δ = .ok (.bool (true && (true && decide (c ≤ a)))) := ev_and lY fun _ => ev_and lO fun _ => cmp_ge (ev_b (evs1 (ev_var vO)) ha) (ev_b (evs1 (ev_var vY)) hc)
      rw [Bool.true_and, Bool.true_and] at t1
      by_cases hca : c ≤ a
      · rw [decide_eq_true hca] at t1
        refine ⟨.none, run (seq_out ((ite_t (tr_of t1)).trans (seq_out (ret_ok rfl) (fun _ z => nomatch z))) (fun _ z => nomatch z)), .inl ⟨rfl, fun b e => ?_⟩⟩
        have q := (tabOf_iff h).mp e
        obtain ⟨p1, hp1, z1, y1⟩ := (mY c).mp hcY
        obtain ⟨p2, hp2, z2, y2⟩ := (mO a).mp haO
        have q1 := (q p1 hp1).1 z1
        have q2 := (q p2 hp2).2 z2
        omega
      · rw [decide_eq_false hca] at t1
        refine ⟨.int (a + 1), run ((seq_nx ((ite_f (tr_of t1)).trans ex_nil)).trans (seq_out (ret_ok hret) (fun _ z => nomatch z))), .inr ⟨a + 1, rfl, (tabOf_iff h).mpr fun p hp => ⟨fun z => ?_, fun z => ?_⟩⟩⟩
        · have := hcm _ ((mY _).mpr ⟨p, hp, z, rfl⟩)
          omega
        · have := ham _ ((mO _).mpr ⟨p, hp, z, rfl⟩)
          omega
end Lk27

set_option Elab.async false
set_option linter.all false
set_option maxRecDepth 100000
set_option maxHeartbeats 2000000
/-! k27, the plain law: signs_of. -/
namespace EV
open PySem PyProof.Rows
theorem and_pow0 {p k : Nat} (h : p.testBit k = false) : p &&& 2 ^ k = 0 := by
  refine Nat.eq_of_testBit_eq fun i => ?_
  rw [Nat.testBit_and, Nat.testBit_two_pow, Nat.zero_testBit]
  by_cases e : k = i
  · subst e; rw [h]; rfl
  · rw [decide_eq_false e, Bool.and_false]
theorem bit_or {p k : Nat} (h : p.testBit k = false) : binop .BitOr (.int p) (.int ((2 ^ k : Nat) : Int)) = .ok (.int ((p + 2 ^ k : Nat) : Int)) := by
  show R.ok (PyData.int (Builtin.bitOr (p : Int) ((2 ^ k : Nat) : Int))) = _
  rw [bitOr_and, bitAnd_pp (Int.natCast_nonneg p) (Int.natCast_nonneg (2 ^ k)), Int.toNat_natCast, Int.toNat_natCast, and_pow0 h]
  congr 2
theorem ev_chain {Z : Sem0} {δ : Env} {a b c : Tm} {i j l : Int} (h1 : ev Z a δ = .ok (.int i)) (h2 : ev Z b δ = .ok (.int j)) (h3 : ev Z c δ = .ok (.int l)) : ev Z (.chain .Lt .Lt a b c) δ = .ok (.bool (decide (i < j) && decide (j < l))) := by
  show (R.bind (ev Z a δ) fun x => (ev Z b δ).bind fun y => (cmpop .Lt x y).bind fun k => if k = true then (ev Z c δ).bind fun z => (cmpop .Lt y z).bind fun k' => R.ok (PyData.bool k') else R.ok (PyData.bool false)) = _
  rw [h1, h2, h3]
  show (if decide (i < j) = true then R.ok (PyData.bool (decide (j < l))) else R.ok (PyData.bool false)) = _
  cases decide (i < j) <;> rfl
def lo : List Int → Int
  | [] => 0
  | x :: r => minI r x
def hi : List Int → Int
  | [] => 0
  | x :: r => maxI r x
theorem min_lo {l : List Int} (h : l ≠ []) : bicall .min [seqD false l] = .ok (.int (lo l)) := by
  cases l with
  | nil => exact absurd rfl h
  | cons x r =>
    show (match ints? ((x :: r).map PyData.int) with | some (x :: l) => R.ok (PyData.int (minI l x)) | _ => .bad) = _
    rw [ints_map]
    rfl
theorem max_hi {l : List Int} (h : l ≠ []) : bicall .max [seqD false l] = .ok (.int (hi l)) := by
  cases l with
  | nil => exact absurd rfl h
  | cons x r =>
    show (match ints? ((x :: r).map PyData.int) with | some (x :: l) => R.ok (PyData.int (maxI l x)) | _ => .bad) = _
    rw [ints_map]
    rfl
end EV
namespace Lk27
open PySem EV
def steps (T : List Int) (m k : Nat) : List Int := ((List.range (2 ^ m)).filter fun p => !p.testBit k).map fun p => T.getD (p + 2 ^ k) 0 - T.getD p 0
def sg (T : List Int) (m k : Nat) : Option Int := if lo (steps T m k) < 0 ∧ 0 < hi (steps T m k) then none else some (if 0 < hi (steps T m k) then hi (steps T m k) else lo (steps T m k))
def sgD (o : Option Int) : EV.D := match o with
  | none => .none
  | some i => .int i
theorem in_range : ∀ m, m ≤ 4 → ∀ k, k < m → ∀ p, p < 2 ^ m → p.testBit k = false → p + 2 ^ k < 2 ^ m := by
  have h : ∀ m : Fin 5, ∀ k : Fin 4, k.val < m.val → ∀ p : Fin 16, p.val < 2 ^ m.val → p.val.testBit k.val = false → p.val + 2 ^ k.val < 2 ^ m.val := by decide
  intro m hm k hk p hp
  have : 2 ^ m ≤ 16 := pow_le hm
  exact h ⟨m, by omega⟩ ⟨k, by omega⟩ hk ⟨p, by omega⟩ hp
theorem steps_ne {T : List Int} {m k : Nat} (hk : k < m) : steps T m k ≠ [] := by
  have h0 : (0 : Nat) ∈ (List.range (2 ^ m)).filter fun p => !p.testBit k := List.mem_filter.mpr ⟨List.mem_range.mpr (Nat.pow_pos (by decide)), by simp⟩
  intro z
  unfold steps at z
  rw [List.map_eq_nil_iff] at z
  rw [z] at h0
  simp at h0
theorem signs {m : Nat} {T : List Int} (h : IsT m T) (n : Nat) : cl (n + 5) 6 [tab T] = .ok (.tuple ((List.range m).map fun k => sgD (sg T m k))) := by
  have hm := h.m4
  have hm2 := pow_le hm
  have hT2 : (T.map PyData.int).length = 2 ^ m := by rw [List.length_map, h.len]
  refine run_rt (Z := Zn (n + 4)) (f := f6) (δ := [some (tab T), none, none, none, none, none, none, none]) rfl rfl ?_
  refine (seq_nx (drop_ok (ev_c (ds := [tab T]) (evs1 rfl) (check_table h (n + 1))))).trans ?_
  refine (seq_nx (δ' := [some (tab T), some (.int m), none, none, none, none, none, none]) (set_ok (ev_c (ds := [tab T]) (evs1 rfl) (letters h n)))).trans ?_
  refine (seq_nx (δ' := [some (tab T), some (.int m), some (.list []), none, none, none, none, none]) (fresh_ok rfl)).trans ?_
  obtain ⟨δ', hx, x3, x4, x5, x6, rfl⟩ := loop_pre (Z := Zn (n + 4)) (δ := [some (tab T), some (.int m), some (.list []), none, none, none, none, none]) (it := .cons (.var 1) .nil) (tg := .one 3) (k := .range) (as := [.int m]) (emb := fun i : Nat => PyData.int i) (xs := List.range m)
    (b := (.seq (.fresh 4 (.comp (.one 7) .range (.cons (.bi .len (.cons (.var 0) .nil)) .nil) (.not (.bin .BitAnd (.bin .RShift (.var 7) (.var 3)) (.con (.int 1)))) (.bin .Sub (.ix (.var 0) (.bin .BitOr (.var 7) (.bin .LShift (.con (.int 1)) (.var 3)))) (.ix (.var 0) (.var 7))))) (.seq (.pars [5, 6] (.cons (.bi .min (.cons (.var 4) .nil)) (.cons (.bi .max (.cons (.var 4) .nil)) .nil))) (.seq (.app 2 (.ite (.chain .Lt .Lt (.var 5) (.con (.int 0)) (.var 6)) (.con .none) (.ite (.cmp .Gt (.var 6) (.con (.int 0))) (.var 6) (.var 5)))) .nil))))
    (Q := fun pre δ => ∃ x3 x4 x5 x6, δ = [some (tab T), some (.int m), some (.list (pre.map fun k => sgD (sg T m k))), x3, x4, x5, x6, none]) rfl (iter_range (by omega)) ⟨none, none, none, none, rfl⟩ (fun pre k post δ e hq => by
      obtain ⟨x3, x4, x5, x6, rfl⟩ := hq
      have hk : k < m := by
        have : k ∈ List.range m := by rw [e]; exact List.mem_append_right _ List.mem_cons_self
        exact List.mem_range.mp this
      have hpl : pre.length < m := by
        have h1 : (List.range m).length = pre.length + (post.length + 1) := by rw [e, List.length_append, List.length_cons]
        rw [List.length_range] at h1
        omega
      obtain ⟨F, hF⟩ : ∃ F, F = pre.map fun k => sgD (sg T m k) := ⟨_, rfl⟩
      rw [← hF]
      have hb : bindTg (.one 3) (.int (k : Int)) [some (tab T), some (.int m), some (.list F), x3, x4, x5, x6, none] = .ok [some (tab T), some (.int m), some (.list F), some (.int k), x4, x5, x6, none] := rfl
      have hs : ev (Zn (n + 4)) (.comp (.one 7) .range (.cons (.bi .len (.cons (.var 0) .nil)) .nil) (.not (.bin .BitAnd (.bin .RShift (.var 7) (.var 3)) (.con (.int 1)))) (.bin .Sub (.ix (.var 0) (.bin .BitOr (.var 7) (.bin .LShift (.con (.int 1)) (.var 3)))) (.ix (.var 0) (.var 7)))) [some (tab T), some (.int m), some (.list F), some (.int k), x4, x5, x6, none] = .ok (seqD false (steps T m k)) := by
        refine (comp_plain (as := [.int ((2 ^ m : Nat) : Int)]) (emb := fun i : Nat => PyData.int i) (xs := List.range (2 ^ m)) (b := fun p => !p.testBit k) (g := fun p => PyData.int (T.getD (p + 2 ^ k) 0 - T.getD p 0)) (evs1 (ev_b (evs1 rfl) (by rw [len_tup, hT2]))) (iter_range (by omega)) (fun p hp => ?_) (fun p hp hbit => ?_)).trans ?_
        · refine tr_of (ev_not ?_)
          rw [ev_bit (p := p) (k := k) rfl rfl]
          exact truth_bit _
        · have hp := List.mem_range.mp hp
          have hz : p.testBit k = false := by simpa using hbit
          have hr := in_range m hm k hk p hp hz
          refine ev_o ((ev_ix (x := seqD true T) rfl (ev_o (x := .int (p : Int)) rfl (ev_o (x := .int 1) (y := .int (k : Int)) rfl rfl (shl_one (by omega))) (bit_or hz))).trans (index_seq (by rw [h.len]; exact hr))) ((ev_ix (x := seqD true T) (y := .int (p : Int)) rfl rfl).trans (index_seq (by rw [h.len]; exact hp))) sub_i
        · unfold steps seqD
          rw [if_neg Bool.false_ne_true, List.map_map]
          rfl
      have hne := steps_ne (T := T) hk
      have hv : ev (Zn (n + 4)) (.ite (.chain .Lt .Lt (.var 5) (.con (.int 0)) (.var 6)) (.con .none) (.ite (.cmp .Gt (.var 6) (.con (.int 0))) (.var 6) (.var 5))) [some (tab T), some (.int m), some (.list F), some (.int k), some (seqD false (steps T m k)), some (.int (lo (steps T m k))), some (.int (hi (steps T m k))), none] = .ok (sgD (sg T m k)) := by
        rw [ev_ite (tr_of (ev_chain (i := lo (steps T m k)) (j := 0) (l := hi (steps T m k)) rfl rfl rfl))]
        unfold sg
        by_cases c1 : lo (steps T m k) < 0
        · by_cases c2 : 0 < hi (steps T m k)
          · rw [decide_eq_true c1, decide_eq_true c2, if_pos (Bool.and_self true), if_pos ⟨c1, c2⟩]
            rfl
          · rw [decide_eq_true c1, decide_eq_false c2, if_neg (by decide), if_neg (fun z => c2 z.2), if_neg c2, ev_ite (tr_of (cmp_gt (i := hi (steps T m k)) (j := 0) rfl rfl)), decide_eq_false c2, if_neg Bool.false_ne_true]
            rfl
        · rw [decide_eq_false c1, if_neg (by simp), if_neg (fun z => c1 z.1), ev_ite (tr_of (cmp_gt (i := hi (steps T m k)) (j := 0) rfl rfl))]
          by_cases c2 : 0 < hi (steps T m k)
          · rw [decide_eq_true c2, if_pos rfl, if_pos c2]
            rfl
          · rw [decide_eq_false c2, if_neg Bool.false_ne_true, if_neg c2]
            rfl
      refine ⟨[some (tab T), some (.int m), some (.list (F ++ [sgD (sg T m k)])), some (.int k), some (seqD false (steps T m k)), some (.int (lo (steps T m k))), some (.int (hi (steps T m k))), none], (bind_at hb).trans ?_, some (.int k), some (seqD false (steps T m k)), some (.int (lo (steps T m k))), some (.int (hi (steps T m k))), ?_⟩
      · refine (seq_nx (δ' := [some (tab T), some (.int m), some (.list F), some (.int k), some (seqD false (steps T m k)), x5, x6, none]) (fresh_ok hs)).trans ?_
        refine (seq_nx (δ' := [some (tab T), some (.int m), some (.list F), some (.int k), some (seqD false (steps T m k)), some (.int (lo (steps T m k))), some (.int (hi (steps T m k))), none]) (exPars_ok (ds := [.int (lo (steps T m k)), .int (hi (steps T m k))]) (evs2 (ev_b (evs1 rfl) (min_lo hne)) (ev_b (evs1 rfl) (max_hi hne))) rfl)).trans ?_
        exact (seq_nx (app_ok (xs := F) rfl hv (by rw [hF, List.length_map]; have : LN = 16777216 := rfl; omega))).trans ex_nil
      · rw [hF, List.map_append]
        rfl)
  refine (seq_nx hx).trans ?_
  exact seq_out (ret_ok (ev_b (evs1 rfl) rfl)) (fun _ z => nomatch z)
end Lk27

set_option Elab.async false
set_option linter.all false
set_option maxRecDepth 100000
set_option maxHeartbeats 2000000
/-! k27, the plain law: rows_within. -/
namespace EV
open PySem
section
variable {Z : Sem0} {e it1 : Tm}
theorem compL_one {α : Type} {emb : α → D} {j : Nat} {g : α → D} {δ : Env} : ∀ {xs : List α}, (∀ x ∈ xs, ev Z e (δ.set j (some (emb x))) = .ok (g x)) →
    compL (.one j) (fun δ' => ((ev Z (.con (.bool true)) δ').bind truth).calm) (fun δ' => (ev Z e δ').calm) δ (xs.map emb) = .ok (xs.map g)
  | [], _ => rfl
  | x :: xs, h => by
    have ih := compL_one (emb := emb) (j := j) (g := g) (δ := δ) (xs := xs) fun y hy => h y (List.mem_cons_of_mem _ hy)
    show (R.bind (ev Z e (δ.set j (some (emb x)))).calm fun y => _) = _
    rw [h x List.mem_cons_self]
    show (R.bind (compL _ _ _ _ _) _) = _
    rw [ih]
    rfl
theorem compL2_one {α β : Type} {emb : α → D} {emb2 : β → D} {i j : Nat} {k1 : Itk} {ys : α → List β} {g : α → β → D} {δ : Env} : ∀ {xs : List α}, (∀ x ∈ xs, ((evs Z it1 (δ.set i (some (emb x)))).bind (iterate k1)) = .ok ((ys x).map emb2)) → (∀ x ∈ xs, ∀ y ∈ ys x, ev Z e ((δ.set i (some (emb x))).set j (some (emb2 y))) = .ok (g x y)) →
    compL2 (.one i) (fun δ' => ((ev Z (.con (.bool true)) δ').bind truth).calm) (fun δ' => ((evs Z it1 δ').bind (iterate k1)).calm) (.one j) (fun δ' => ((ev Z (.con (.bool true)) δ').bind truth).calm) (fun δ' => (ev Z e δ').calm) δ (xs.map emb) = .ok (xs.flatMap fun x => (ys x).map (g x))
  | [], _, _ => rfl
  | x :: xs, h1, h2 => by
    have ih := compL2_one (emb := emb) (emb2 := emb2) (i := i) (j := j) (k1 := k1) (ys := ys) (g := g) (δ := δ) (xs := xs) (fun y hy => h1 y (List.mem_cons_of_mem _ hy)) fun y hy => h2 y (List.mem_cons_of_mem _ hy)
    show (R.bind ((evs Z it1 (δ.set i (some (emb x)))).bind (iterate k1)).calm fun ds => _) = _
    rw [h1 x List.mem_cons_self]
    show (R.bind (compL (.one j) _ _ (δ.set i (some (emb x))) ((ys x).map emb2)) fun ys' => _) = _
    rw [compL_one (emb := emb2) (g := g x) fun y hy => h2 x List.mem_cons_self y hy]
    show (R.bind (compL2 _ _ _ _ _ _ _ _) _) = _
    rw [ih]
    rfl
theorem comp2_ok {α β : Type} {it : Tm} {k : Itk} {as : List D} {emb : α → D} {emb2 : β → D} {i j : Nat} {k1 : Itk} {ys : α → List β} {g : α → β → D} {δ : Env} {xs : List α} (hi : evs Z it δ = .ok as) (hk : iterate k as = .ok (xs.map emb)) (h1 : ∀ x ∈ xs, ((evs Z it1 ((δ.set j none).set i (some (emb x)))).bind (iterate k1)) = .ok ((ys x).map emb2))
    (h2 : ∀ x ∈ xs, ∀ y ∈ ys x, ev Z e (((δ.set j none).set i (some (emb x))).set j (some (emb2 y))) = .ok (g x y)) (hl : (xs.flatMap fun x => (ys x).map (g x)).length ≤ LN) :
    ev Z (.comp2 (.one i) k it (.con (.bool true)) (.one j) k1 it1 (.con (.bool true)) e) δ = .ok (.list (xs.flatMap fun x => (ys x).map (g x))) := by
  show ((evs Z it δ).bind fun as => (iterate k as).bind fun ds => (compL2 (.one i) (fun δ' => ((ev Z (.con (.bool true)) δ').bind truth).calm) (fun δ' => ((evs Z it1 δ').bind (iterate k1)).calm) (.one j) (fun δ' => ((ev Z (.con (.bool true)) δ').bind truth).calm) (fun δ' => (ev Z e δ').calm) (wipeE [j] δ) ds).bind fun ys => if ys.length ≤ LN then R.ok (PyData.list ys) else .bad) = _
  rw [hi]
  show (R.bind (iterate k as) _) = _
  rw [hk]
  show (R.bind (compL2 _ _ _ _ _ _ (δ.set j none) _) _) = _
  rw [compL2_one (emb := emb) (emb2 := emb2) (ys := ys) (g := g) h1 h2]
  exact if_pos hl
end
end EV
namespace Lk27
open PySem EV
def ext1 (F : List (List Int)) (t : Nat) : List (List Int) := F.flatMap fun row => (List.range (t + 1)).map fun o : Nat => row ++ [(o : Int)]
def rowsP (tops : List Nat) : List (List Int) := tops.foldl ext1 [[]]
theorem ext1_len (F : List (List Int)) (t : Nat) : (ext1 F t).length = F.length * (t + 1) := by
  unfold ext1
  induction F with
  | nil => simp
  | cons r F ih => rw [List.flatMap_cons, List.length_append, ih, List.length_map, List.length_range, List.length_cons, Nat.succ_mul]; omega
theorem rows {tops : List Nat} (h4 : tops.length ≤ 4) (ht : ∀ t ∈ tops, t ≤ 4) (n : Nat) : cl (n + 1) 8 [.list (tops.map fun t : Nat => .int (t : Int))] = .ok (.list ((rowsP tops).map fun r => tab r)) := by
  obtain ⟨t0, ht0⟩ : ∃ t0 : EV.D, t0 = .list (tops.map fun t : Nat => PyData.int (t : Int)) := ⟨_, rfl⟩
  obtain ⟨δ', hx, _, x2, rfl⟩ := loop_pre (Z := Zn n) (δ := [some t0, some (.list [tab []]), none, none, none]) (it := .cons (.var 0) .nil) (tg := .one 2) (k := .plain) (as := [t0]) (emb := fun t : Nat => PyData.int (t : Int)) (xs := tops)
    (b := (.seq (.fresh 1 (.comp2 (.one 3) .plain (.cons (.var 1) .nil) (.con (.bool true)) (.one 4) .range (.cons (.bin .Add (.var 2) (.con (.int 1))) .nil) (.con (.bool true)) (.bin .Add (.var 3) (.tup (.cons (.var 4) .nil))))) .nil))
    (Q := fun pre δ => ((rowsP pre).length ≤ 5 ^ pre.length ∧ ∀ r ∈ rowsP pre, r.length = pre.length) ∧ ∃ x2, δ = [some t0, some (.list ((rowsP pre).map fun r => tab r)), x2, none, none]) rfl (by rw [ht0]; rfl) ⟨⟨by decide, fun r hr => by simp [rowsP] at hr; rw [hr]; rfl⟩, none, rfl⟩ (fun pre t post δ e hq => by
      obtain ⟨⟨hlen, hrow⟩, x2, rfl⟩ := hq
      have htt : t ≤ 4 := ht t (by rw [e]; exact List.mem_append_right _ List.mem_cons_self)
      have hpl : pre.length + 1 ≤ 4 := by
        have h1 : tops.length = pre.length + (post.length + 1) := by rw [e, List.length_append, List.length_cons]
        omega
      have e1 : rowsP (pre ++ [t]) = ext1 (rowsP pre) t := by unfold rowsP; rw [List.foldl_append]; rfl
      have hl1 : (ext1 (rowsP pre) t).length ≤ 5 ^ (pre.length + 1) := by
        rw [ext1_len, Nat.pow_succ]
        exact Nat.mul_le_mul hlen (by omega)
      have h625 : 5 ^ (pre.length + 1) ≤ 625 := Nat.pow_le_pow_right (n := 5) (by decide) hpl
      have hb : bindTg (.one 2) (.int (t : Int)) [some t0, some (.list ((rowsP pre).map fun r => tab r)), x2, none, none] = .ok [some t0, some (.list ((rowsP pre).map fun r => tab r)), some (.int t), none, none] := rfl
      have eL : ((rowsP pre).flatMap fun x => (List.range (t + 1)).map fun o : Nat => tab (x ++ [(o : Int)])) = (ext1 (rowsP pre) t).map fun r => tab r := by
        unfold ext1
        rw [List.map_flatMap]
        congr 1
        funext x
        rw [List.map_map]
        rfl
      have hc : ev (Zn n) (.comp2 (.one 3) .plain (.cons (.var 1) .nil) (.con (.bool true)) (.one 4) .range (.cons (.bin .Add (.var 2) (.con (.int 1))) .nil) (.con (.bool true)) (.bin .Add (.var 3) (.tup (.cons (.var 4) .nil)))) [some t0, some (.list ((rowsP pre).map fun r => tab r)), some (.int t), none, none] = .ok (.list ((ext1 (rowsP pre) t).map fun r => tab r)) := by
        refine (comp2_ok (as := [.list ((rowsP pre).map fun r => tab r)]) (xs := rowsP pre) (emb := fun r => tab r) (emb2 := fun o : Nat => PyData.int (o : Int)) (ys := fun _ => List.range (t + 1)) (g := fun x o => tab (x ++ [(o : Int)])) rfl rfl (fun x hx => ?_) (fun x hx o ho => ?_) (by rw [eL, List.length_map]; have : LN = 16777216 := rfl; omega)).trans (by rw [eL])
        · refine (bind_at (evs1 (ev_o (x := .int (t : Int)) (y := .int 1) rfl rfl add_i))).trans ?_
          exact iter_range (n := t + 1) (by omega)
        · refine ev_o (x := tab x) (y := .tuple [.int (o : Int)]) rfl (ev_tup (evs1 rfl)) ?_
          show (if (x.map PyData.int).length + 1 ≤ LN then R.ok (PyData.tuple (x.map PyData.int ++ [PyData.int (o : Int)])) else .bad) = _
          rw [if_pos (by rw [List.length_map, hrow x hx]; have : LN = 16777216 := rfl; omega)]
          show _ = R.ok (PyData.tuple ((x ++ [(o : Int)]).map PyData.int))
          rw [List.map_append]
          rfl
      refine ⟨_, (bind_at hb).trans ((seq_nx (fresh_ok hc)).trans ex_nil), ⟨by rw [e1, List.length_append]; exact hl1, fun r hr => ?_⟩, some (.int t), by rw [e1]; rfl⟩
      rw [e1] at hr
      unfold ext1 at hr
      simp only [List.mem_flatMap, List.mem_map] at hr
      obtain ⟨x, hx, o, _, rfl⟩ := hr
      rw [List.length_append, List.length_append, hrow x hx]
      rfl)
  refine run_rt (Z := Zn n) (f := f8) (δ := [some t0, none, none, none, none]) rfl (by rw [ht0]; rfl) ?_
  refine (seq_nx (δ' := [some t0, some (.list [tab []]), none, none, none]) (fresh_ok rfl)).trans ?_
  exact (seq_nx hx).trans (seq_out (ret_ok rfl) (fun _ z => nomatch z))
/-- which rows there are -/
def fitsB : List Nat → List Int → Bool
  | [], [] => true
  | t :: ts, o :: r => decide (0 ≤ o) && decide (o ≤ (t : Int)) && fitsB ts r
  | _, _ => false
theorem mem_foldl : ∀ (tops : List Nat) (F : List (List Int)) (r0 r : List Int), r0 ∈ F → fitsB tops r = true → r0 ++ r ∈ tops.foldl ext1 F
  | [], F, r0, [], h, _ => by rw [List.append_nil]; exact h
  | [], _, _, _ :: _, _, h => by simp [fitsB] at h
  | _ :: _, _, _, [], _, h => by simp [fitsB] at h
  | t :: ts, F, r0, o :: r, h, hf => by
    simp only [fitsB, Bool.and_eq_true, decide_eq_true_eq] at hf
    obtain ⟨⟨h1, h2⟩, h3⟩ := hf
    obtain ⟨k, rfl⟩ := Int.eq_ofNat_of_zero_le h1
    have hm : r0 ++ [(k : Int)] ∈ ext1 F t := by
      unfold ext1
      simp only [List.mem_flatMap, List.mem_map, List.mem_range]
      exact ⟨r0, h, k, by omega, rfl⟩
    have := mem_foldl ts (ext1 F t) (r0 ++ [(k : Int)]) r hm h3
    rw [List.append_assoc] at this
    exact this
theorem mem_rows {tops : List Nat} {r : List Int} (h : fitsB tops r = true) : r ∈ rowsP tops := mem_foldl tops [[]] [] r List.mem_cons_self h
theorem fits_foldl : ∀ (tops : List Nat) (F : List (List Int)) (r : List Int), r ∈ tops.foldl ext1 F → ∃ r0 r1, r0 ∈ F ∧ r = r0 ++ r1 ∧ fitsB tops r1 = true
  | [], F, r, h => ⟨r, [], h, (List.append_nil r).symm, rfl⟩
  | t :: ts, F, r, h => by
    obtain ⟨r0, r1, h1, rfl, h3⟩ := fits_foldl ts (ext1 F t) r h
    unfold ext1 at h1
    simp only [List.mem_flatMap, List.mem_map, List.mem_range] at h1
    obtain ⟨x, hx, k, hk, rfl⟩ := h1
    refine ⟨x, (k : Int) :: r1, hx, by rw [List.append_assoc]; rfl, ?_⟩
    simp only [fitsB, Bool.and_eq_true, decide_eq_true_eq]
    exact ⟨⟨Int.natCast_nonneg k, by omega⟩, h3⟩
theorem rows_fit {tops : List Nat} {r : List Int} (h : r ∈ rowsP tops) : fitsB tops r = true := by
  obtain ⟨r0, r1, h1, rfl, h3⟩ := fits_foldl tops [[]] r h
  simp at h1
  rw [h1]
  exact h3
theorem fits_len : ∀ {tops : List Nat} {r : List Int}, fitsB tops r = true → r.length = tops.length
  | [], [], _ => rfl
  | [], _ :: _, h => by simp [fitsB] at h
  | _ :: _, [], h => by simp [fitsB] at h
  | t :: ts, o :: r, h => by
    simp only [fitsB, Bool.and_eq_true] at h
    rw [List.length_cons, List.length_cons, fits_len h.2]
end Lk27

set_option Elab.async false
set_option linter.all false
set_option maxRecDepth 100000
set_option maxHeartbeats 2000000
/-! k27, the plain law: least_weights. -/
namespace EV
open PySem
theorem alike_ints : ∀ a b : List Int, W.alikeAll (a.map .int) (b.map .int) = true
  | [], _ => by simp [W.alikeAll]
  | _ :: _, [] => by simp [W.alikeAll]
  | x :: a, y :: b => by
    show W.alikeAll (.int x :: a.map .int) (.int y :: b.map .int) = true
    rw [W.alikeAll, alike_ints a b]
    simp [W.alike]
theorem mul_l {i j : Int} (h : smallI i = true) : binop .Mult (.int i) (.int j) = .ok (.int (i * j)) := by
  show (if (smallI i || smallI j) = true then R.ok (PyData.int (i * j)) else .bad) = _
  rw [if_pos (by rw [h, Bool.true_or])]
theorem list_range (l : List Int) : l.map PyData.int = (List.range l.length).map fun k => PyData.int (l.getD k 0) := by
  refine List.ext_getElem (by simp) fun i h1 h2 => ?_
  rw [List.getElem_map, List.getElem_map, List.getElem_range, List.getD_eq_getElem?_getD, List.getElem?_eq_getElem (by simpa using h1)]
  rfl
theorem zip_seq {a b : List Int} {n : Nat} (ha : a.length = n) (hb : b.length = n) {t u : Bool} : iterate .zip [seqD t a, seqD u b] = .ok ((List.range n).map fun k => .tuple [.int (a.getD k 0), .int (b.getD k 0)]) := by
  have e : zipL (a.map .int) (b.map .int) = (List.range n).map fun k => .tuple [.int (a.getD k 0), .int (b.getD k 0)] := by
    rw [list_range a, list_range b, ha, hb]
    exact zip_ints n _ _
  cases t <;> cases u <;> exact congrArg R.ok e
end EV
namespace Lk27
open PySem EV
def sgn (m : Nat) (σ r : List Int) : List Int := (List.range m).map fun k => r.getD k 0 * σ.getD k 0
abbrev key (m : Nat) (σ r : List Int) : EV.D := .tuple [.int r.sum, tab (sgn m σ r)]
theorem shaped_key (m : Nat) (σ r : List Int) : SeqAt.shaped (key m σ r) = true := by
  show ((true && (PyData.canLayAll0 ((sgn m σ r).map .int) && true)) && decide (max 0 (max (PyData.depthAll ((sgn m σ r).map .int) + 1) 0) + 1 ≤ 64)) = true
  rw [lay_ints, depth_ints]
  rfl
theorem key_lt (m : Nat) (σ r r' : List Int) : ∃ k, cmpop .Lt (key m σ r) (key m σ r') = .ok k := by
  have ha : W.alike (key m σ r) (key m σ r') = true := by
    simp only [W.alike, W.alikeAll, alike_ints, Bool.and_self]
  refine ⟨W.dataLt (key m σ r) (key m σ r'), ?_⟩
  show (if (SeqAt.shaped (key m σ r) && SeqAt.shaped (key m σ r') && W.alike (key m σ r) (key m σ r')) = true then R.ok (W.dataLt (key m σ r) (key m σ r')) else .bad) = _
  rw [shaped_key, shaped_key, ha]
  rfl
theorem sgn_len {m : Nat} {σ r : List Int} : (sgn m σ r).length = m := by simp [sgn]
abbrev topsOf (σ : List Int) : List Nat := σ.map fun i => if i = 0 then 0 else 4
def Real (m : Nat) (T : List Int) : Prop := ∃ (w : List Int) (b : Int), w.length = m ∧ tabOf w b m = T
abbrev E7 (T : List Int) (m : Nat) (σ : List Int) (best x5 x6 x7 x8 : Option EV.D) : EV.Env := [some (tab T), some (.int 4), some (.int m), some (seqD true σ), best, x5, x6, x7, x8, none, none]
abbrev lwB : Sm := (.seq (.set 6 (.bi .tuple (.cons (.comp (.tup [9, 10]) .zip (.cons (.var 5) (.cons (.var 3) .nil)) (.con (.bool true)) (.bin .Mult (.var 9) (.var 10))) .nil))) (.seq (.set 7 (.tup (.cons (.bi .sum (.cons (.var 5) .nil)) (.cons (.var 6) .nil)))) (.seq (.ite (.bop false (.cmp .Is (.var 4) (.con .none)) (.cmp .Lt (.var 7) (.ix (.var 4) (.con (.int 0))))) (.seq (.set 8 (.call 9 (.cons (.var 0) (.cons (.var 6) .nil)) 0)) (.seq (.ite (.cmp .IsNot (.var 8) (.con .none)) (.seq (.set 4 (.tup (.cons (.var 7) (.cons (.var 8) .nil)))) .nil) .nil) .nil)) .nil) .nil)))
theorem lw_loop {m : Nat} {T : List Int} (h : IsT m T) {σ : List Int} (hσ : σ.length = m) {rs : List (List Int)} (hr : ∀ r ∈ rs, r.length = m ∧ ∀ k, k < m → smallI (r.getD k 0) = true) {n : Nat} {it : Tm} {as : List EV.D} (hi : evs (Zn (n + 1)) it (E7 T m σ (some .none) none none none none) = .ok as) (hk : iterate .plain as = .ok (rs.map fun r => tab r)) :
    ∃ best x5 x6 x7 x8, ex (Zn (n + 1)) (.loop (.one 5) .plain it lwB) (E7 T m σ (some .none) none none none none) = .ok (.nx (E7 T m σ (some best) x5 x6 x7 x8)) ∧
      ((best = .none ∧ ∀ r ∈ rs, ∀ b, tabOf (sgn m σ r) b m ≠ T) ∨ (∃ r b, best = .tuple [key m σ r, .int b] ∧ Real m T)) := by
  have hm := h.m4
  obtain ⟨δ', hx, best, x5, x6, x7, x8, rfl, hbest⟩ := loop_pre (Z := Zn (n + 1)) (δ := E7 T m σ (some .none) none none none none) (it := it) (tg := .one 5) (k := .plain) (as := as) (emb := fun r : List Int => tab r) (xs := rs) (b := lwB)
    (Q := fun pre δ => ∃ best x5 x6 x7 x8, δ = E7 T m σ (some best) x5 x6 x7 x8 ∧ ((best = .none ∧ ∀ r ∈ pre, ∀ b, tabOf (sgn m σ r) b m ≠ T) ∨ (∃ r b, best = .tuple [key m σ r, .int b] ∧ Real m T))) hi hk ⟨.none, none, none, none, none, rfl, .inl ⟨rfl, fun r hr => by simp at hr⟩⟩ (fun pre r post δ e hq => by
      obtain ⟨best, x5, x6, x7, x8, rfl, hbest⟩ := hq
      obtain ⟨hrl, hrs⟩ := hr r (by rw [e]; exact List.mem_append_right _ List.mem_cons_self)
      have hb : bindTg (.one 5) (tab r) (E7 T m σ (some best) x5 x6 x7 x8) = .ok (E7 T m σ (some best) (some (tab r)) x6 x7 x8) := rfl
      have e6 : ev (Zn (n + 1)) (.bi .tuple (.cons (.comp (.tup [9, 10]) .zip (.cons (.var 5) (.cons (.var 3) .nil)) (.con (.bool true)) (.bin .Mult (.var 9) (.var 10))) .nil)) (E7 T m σ (some best) (some (tab r)) x6 x7 x8) = .ok (tab (sgn m σ r)) := by
        have hc : ev (Zn (n + 1)) (.comp (.tup [9, 10]) .zip (.cons (.var 5) (.cons (.var 3) .nil)) (.con (.bool true)) (.bin .Mult (.var 9) (.var 10))) (E7 T m σ (some best) (some (tab r)) x6 x7 x8) = .ok (.list ((sgn m σ r).map .int)) := by
          refine (comp_pair (as := [seqD true r, seqD true σ]) (f := fun k => PyData.int (r.getD k 0)) (h := fun k => PyData.int (σ.getD k 0)) (xs := List.range m) (b := fun _ => true) (g := fun k => PyData.int (r.getD k 0 * σ.getD k 0)) (evs2 rfl rfl) (zip_seq hrl hσ) (fun k hk => rfl) (fun k hk _ => ev_o (x := .int (r.getD k 0)) (y := .int (σ.getD k 0)) rfl rfl (mul_l (hrs k (List.mem_range.mp hk))))).trans ?_
          rw [filter_tt]
          unfold sgn
          rw [List.map_map]
          rfl
        exact ev_b (evs1 hc) rfl
      have e7 : ev (Zn (n + 1)) (.tup (.cons (.bi .sum (.cons (.var 5) .nil)) (.cons (.var 6) .nil))) (E7 T m σ (some best) (some (tab r)) (some (tab (sgn m σ r))) x7 x8) = .ok (key m σ r) := ev_tup (evs2 (ev_b (evs1 rfl) (by
        show (match ints? (r.map PyData.int) with | some l => R.ok (PyData.int l.sum) | none => .bad) = _
        rw [ints_map])) rfl)
      obtain ⟨d, hd, hd2⟩ := bound_for (T := T) (w := sgn m σ r) h sgn_len n
      have e9 : ev (Zn (n + 1)) (.call 9 (.cons (.var 0) (.cons (.var 6) .nil)) 0) (E7 T m σ (some best) (some (tab r)) (some (tab (sgn m σ r))) (some (key m σ r)) x8) = .ok d := by
        have ea : evs (Zn (n + 1)) (.cons (.var 0) (.cons (.var 6) .nil)) (E7 T m σ (some best) (some (tab r)) (some (tab (sgn m σ r))) (some (key m σ r)) x8) = .ok [tab T, tab (sgn m σ r)] := evs2 rfl rfl
        refine (ev_call ea).trans ?_
        have ed : [tab T, tab (sgn m σ r)] ++ ((Zn (n + 1)).dflt 9).drop 0 = [tab T, tab (sgn m σ r)] := List.append_nil _
        rw [ed]
        have eZ : (Zn (n + 1)).call = callN (fun _ => .bad) (dfltOf ds) (ds.map Dd.fn) (n + 1) := rfl
        rw [eZ]
        exact hd
      have e8 : ev (Zn (n + 1)) (.cmp .IsNot (.var 8) (.con .none)) (E7 T m σ (some best) (some (tab r)) (some (tab (sgn m σ r))) (some (key m σ r)) (some d)) = .ok (.bool (!isN d)) := ev_cmp (ev_var rfl) rfl (isnot_none d)
      have tr : ∃ k, ev (Zn (n + 1)) (.bop false (.cmp .Is (.var 4) (.con .none)) (.cmp .Lt (.var 7) (.ix (.var 4) (.con (.int 0))))) (E7 T m σ (some best) (some (tab r)) (some (tab (sgn m σ r))) (some (key m σ r)) x8) = .ok (.bool k) ∧ (best = .none → k = true) := by
        rcases hbest with ⟨rfl, _⟩ | ⟨r0, b0, rfl, _⟩
        · exact ⟨_, ev_or (l := true) (ev_cmp (x := .none) rfl rfl (is_none _)) (fun z => by simp [isN] at z), fun _ => rfl⟩
        · obtain ⟨k, hk⟩ := key_lt m σ r r0
          exact ⟨_, ev_or (ev_cmp (x := .tuple [key m σ r0, .int b0]) rfl rfl (is_none _)) (fun _ => ev_cmp (x := key m σ r) (y := key m σ r0) rfl rfl hk), fun z => by cases z⟩
      obtain ⟨k, hk, hkn⟩ := tr
      have pre1 : ∀ {rest : Sm} {o : Out}, ex (Zn (n + 1)) rest (E7 T m σ (some best) (some (tab r)) (some (tab (sgn m σ r))) (some (key m σ r)) x8) = .ok o → ((bindTg (.one 5) (tab r) (E7 T m σ (some best) x5 x6 x7 x8)).bind fun δ' => ex (Zn (n + 1)) (.seq (.set 6 (.bi .tuple (.cons (.comp (.tup [9, 10]) .zip (.cons (.var 5) (.cons (.var 3) .nil)) (.con (.bool true)) (.bin .Mult (.var 9) (.var 10))) .nil))) (.seq (.set 7 (.tup (.cons (.bi .sum (.cons (.var 5) .nil)) (.cons (.var 6) .nil)))) rest)) δ') = .ok o := fun hr => by
        refine (bind_at hb).trans ?_
        refine (seq_nx (δ' := E7 T m σ (some best) (some (tab r)) (some (tab (sgn m σ r))) x7 x8) (set_ok e6)).trans ?_
        exact (seq_nx (δ' := E7 T m σ (some best) (some (tab r)) (some (tab (sgn m σ r))) (some (key m σ r)) x8) (set_ok e7)).trans hr
      cases k with
      | false =>
        refine ⟨_, pre1 ((seq_nx ((ite_f (tr_of hk)).trans ex_nil)).trans ex_nil), best, some (tab r), some (tab (sgn m σ r)), some (key m σ r), x8, rfl, ?_⟩
        rcases hbest with ⟨rfl, _⟩ | hbest
        · exact absurd (hkn rfl) Bool.false_ne_true
        · exact .inr hbest
      | true =>
        rcases hd2 with ⟨dn, hno⟩ | ⟨b, rfl, hbT⟩
        · rw [dn] at e8
          refine ⟨_, pre1 ((seq_nx (δ' := E7 T m σ (some best) (some (tab r)) (some (tab (sgn m σ r))) (some (key m σ r)) (some d)) ((ite_t (tr_of hk)).trans ((seq_nx (δ' := E7 T m σ (some best) (some (tab r)) (some (tab (sgn m σ r))) (some (key m σ r)) (some d)) (set_ok e9)).trans ((seq_nx ((ite_f (tr_of e8)).trans ex_nil)).trans ex_nil)))).trans ex_nil), best, some (tab r), some (tab (sgn m σ r)), some (key m σ r), some d, rfl, ?_⟩
          rcases hbest with ⟨rfl, hno2⟩ | hbest
          · refine .inl ⟨rfl, fun r' hr' => ?_⟩
            rcases List.mem_append.mp hr' with z | z
            · exact hno2 r' z
            · rw [List.mem_singleton.mp z]; exact hno
          · exact .inr hbest
        · have eN : ev (Zn (n + 1)) (.tup (.cons (.var 7) (.cons (.var 8) .nil))) (E7 T m σ (some best) (some (tab r)) (some (tab (sgn m σ r))) (some (key m σ r)) (some (.int b))) = .ok (.tuple [key m σ r, .int b]) := ev_tup (evs2 rfl rfl)
          refine ⟨_, pre1 ((seq_nx (δ' := E7 T m σ (some (.tuple [key m σ r, .int b])) (some (tab r)) (some (tab (sgn m σ r))) (some (key m σ r)) (some (.int b))) ((ite_t (tr_of hk)).trans ((seq_nx (δ' := E7 T m σ (some best) (some (tab r)) (some (tab (sgn m σ r))) (some (key m σ r)) (some (.int b))) (set_ok e9)).trans ((seq_nx (δ' := E7 T m σ (some (.tuple [key m σ r, .int b])) (some (tab r)) (some (tab (sgn m σ r))) (some (key m σ r)) (some (.int b))) ((ite_t (tr_of e8)).trans ((seq_nx (δ' := E7 T m σ (some (.tuple [key m σ r, .int b])) (some (tab r)) (some (tab (sgn m σ r))) (some (key m σ r)) (some (.int b))) (set_ok (d := .tuple [key m σ r, .int b]) eN)).trans ex_nil))).trans ex_nil)))).trans ex_nil), .tuple [key m σ r, .int b], some (tab r), some (tab (sgn m σ r)), some (key m σ r), some (.int b), rfl, .inr ⟨r, b, rfl, sgn m σ r, b, sgn_len, hbT⟩⟩)
  exact ⟨best, x5, x6, x7, x8, hx, hbest⟩
end Lk27

set_option Elab.async false
set_option linter.all false
set_option maxRecDepth 100000
set_option maxHeartbeats 2000000
/-! k27, the plain law: least_weights, whole. -/
namespace Lk27
open PySem EV
theorem sgd_lay : ∀ L : List (Option Int), PyData.canLayAll0 (L.map sgD) = true
  | [] => rfl
  | o :: L => by
    show (PyData.canLay0 (sgD o) && PyData.canLayAll0 (L.map sgD)) = true
    rw [sgd_lay L]
    cases o <;> rfl
theorem sgd_depth : ∀ L : List (Option Int), PyData.depthAll (L.map sgD) = 0
  | [] => rfl
  | o :: L => by
    show max (PyData.depth (sgD o)) (PyData.depthAll (L.map sgD)) = 0
    rw [sgd_depth L]
    cases o <;> rfl
theorem sgd_any : ∀ L : List (Option Int), ((L.map sgD).any fun z => PyData.eqv z .none) = L.any (·.isNone)
  | [] => rfl
  | o :: L => by
    rw [List.map_cons, List.any_cons, List.any_cons, sgd_any L]
    cases o <;> rfl
theorem in_none (L : List (Option Int)) : cmpop .In .none (.tuple (L.map sgD)) = .ok (L.any (·.isNone)) := by
  have hs : SeqAt.shaped (.tuple (L.map sgD)) = true := by
    show (PyData.canLayAll0 (L.map sgD) && decide (PyData.depthAll (L.map sgD) + 1 ≤ 64)) = true
    rw [sgd_lay, sgd_depth]
    rfl
  show (if (SeqAt.shaped .none && SeqAt.shaped (.tuple (L.map sgD))) = true then R.ok ((L.map sgD).any fun z => PyData.eqv z .none) else .bad) = _
  rw [hs, sgd_any]
  rfl
theorem some_all : ∀ L : List (Option Int), L.any (·.isNone) = false → L.map sgD = (L.map fun o => o.getD 0).map .int
  | [], _ => rfl
  | o :: L, h => by
    rw [List.any_cons, Bool.or_eq_false_iff] at h
    rw [List.map_cons, List.map_cons, List.map_cons, some_all L h.2]
    cases o with
    | none => simp at h
    | some i => rfl
theorem fits_small : ∀ {tops : List Nat} {r : List Int}, fitsB tops r = true → (∀ t ∈ tops, t ≤ 4) → ∀ k, smallI (r.getD k 0) = true
  | [], [], _, _, k => by cases k <;> rfl
  | [], _ :: _, h, _, _ => by simp [fitsB] at h
  | _ :: _, [], h, _, _ => by simp [fitsB] at h
  | t :: ts, o :: r, h, ht, k => by
    simp only [fitsB, Bool.and_eq_true, decide_eq_true_eq] at h
    cases k with
    | zero =>
      have := ht t List.mem_cons_self
      show smallI o = true
      unfold smallI
      simp only [Bool.and_eq_true, decide_eq_true_eq]
      omega
    | succ k => exact fits_small h.2 (fun t hz => ht t (List.mem_cons_of_mem _ hz)) k
abbrev sgs (m : Nat) (T : List Int) : List (Option Int) := (List.range m).map fun k => sg T m k
theorem least {m : Nat} {T : List Int} (h : IsT m T) : ∃ d, cl 6 7 [tab T, .int 4] = .ok d ∧ (isN d = false → Real m T) ∧
    (∀ r b, (sgs m T).any (·.isNone) = false → fitsB (topsOf ((sgs m T).map fun o => o.getD 0)) r = true → tabOf (sgn m ((sgs m T).map fun o => o.getD 0) r) b m = T → isN d = false) := by
  have hm := h.m4
  obtain ⟨σ, hσ⟩ : ∃ σ, σ = (sgs m T).map fun o => o.getD 0 := ⟨_, rfl⟩
  have hσl : σ.length = m := by rw [hσ]; simp
  rw [← hσ]
  have hsg := signs h 0
  have c1 : ev (Zn 5) (.bop false (.cmp .Gt (.var 2) (.con (.int 4))) (.bop false (.not (.call 0 (.cons (.var 1) (.cons (.con (.int 1)) .nil)) 1)) (.cmp .Gt (.var 1) (.con (.int 4))))) [some (tab T), some (.int 4), some (.int m), none, none, none, none, none, none, none, none] = .ok (.bool (decide ((4 : Int) < m) || (false || false))) :=
    ev_or (cmp_gt rfl rfl) fun _ => ev_or (ev_not (k := true) (tr_of (ev_c (ds := [.int 4, .int 1]) (evs2 rfl rfl) (whole1 4 4 1)))) fun _ => (cmp_gt (i := 4) (j := 4) rfl rfl)
  rw [decide_eq_false (by omega)] at c1
  have s3 : ev (Zn 5) (.call 6 (.cons (.var 0) .nil) 0) [some (tab T), some (.int 4), some (.int m), none, none, none, none, none, none, none, none] = .ok (.tuple ((sgs m T).map sgD)) := by
    refine (ev_c (ds := [tab T]) (evs1 rfl) hsg).trans ?_
    rw [List.map_map]
    rfl
  have c4 : ev (Zn 5) (.cmp .In (.con .none) (.var 3)) [some (tab T), some (.int 4), some (.int m), some (.tuple ((sgs m T).map sgD)), none, none, none, none, none, none, none] = .ok (.bool ((sgs m T).any (·.isNone))) := ev_cmp rfl rfl (in_none _)
  have pre : ∀ {rest : Sm} {o : Out}, ex (Zn 5) rest [some (tab T), some (.int 4), some (.int m), some (.tuple ((sgs m T).map sgD)), none, none, none, none, none, none, none] = .ok o → ex (Zn 5) (.seq (.set 2 (.call 3 (.cons (.var 0) .nil) 0)) (.seq (.ite (.bop false (.cmp .Gt (.var 2) (.con (.int 4))) (.bop false (.not (.call 0 (.cons (.var 1) (.cons (.con (.int 1)) .nil)) 1)) (.cmp .Gt (.var 1) (.con (.int 4))))) (.seq (.raise 1) .nil) .nil) (.seq (.set 3 (.call 6 (.cons (.var 0) .nil) 0)) rest))) [some (tab T), some (.int 4), none, none, none, none, none, none, none, none, none] = .ok o := fun hr => by
    refine (seq_nx (δ' := [some (tab T), some (.int 4), some (.int m), none, none, none, none, none, none, none, none]) (set_ok (ev_c (ds := [tab T]) (evs1 rfl) (letters h 1)))).trans ?_
    refine (seq_nx ((ite_f (tr_of c1)).trans ex_nil)).trans ?_
    exact (seq_nx (set_ok s3)).trans hr
  cases hn : (sgs m T).any (·.isNone) with
  | true =>
    rw [hn] at c4
    refine ⟨.none, run_rt (Z := Zn 5) (f := f7) (δ := [some (tab T), some (.int 4), none, none, none, none, none, none, none, none, none]) rfl rfl (pre (seq_out ((ite_t (tr_of c4)).trans (seq_out (ret_ok rfl) (fun _ z => nomatch z))) (fun _ z => nomatch z))), fun z => by simp [isN] at z, fun r b z => by cases z⟩
  | false =>
    rw [hn] at c4
    have eσ : PyData.tuple ((sgs m T).map sgD) = seqD true σ := by rw [some_all _ hn, hσ]; rfl
    have ht4 : ∀ t ∈ topsOf σ, t ≤ 4 := fun t ht => by
      obtain ⟨i, _, rfl⟩ := List.mem_map.mp ht
      split <;> omega
    have hc : ev (Zn 5) (.comp (.one 9) .plain (.cons (.var 3) .nil) (.con (.bool true)) (.ite (.cmp .Eq (.var 9) (.con (.int 0))) (.con (.int 0)) (.var 1))) (E7 T m σ (some .none) none none none none) = .ok (.list ((topsOf σ).map fun t : Nat => .int (t : Int))) := by
      refine (comp_plain (as := [seqD true σ]) (emb := PyData.int) (xs := σ) (b := fun _ => true) (g := fun i => PyData.int ((if i = 0 then 0 else 4 : Nat) : Int)) rfl rfl (fun i hi => rfl) (fun i hi _ => ?_)).trans ?_
      · rw [ev_ite (tr_of (cmp_eq (i := i) (j := 0) rfl rfl))]
        by_cases z : i = 0
        · rw [decide_eq_true z, if_pos rfl, if_pos z]; rfl
        · rw [decide_eq_false z, if_neg Bool.false_ne_true, if_neg z]; rfl
      · rw [filter_tt, List.map_map]
        rfl
    have hrows : evs (Zn 5) (.cons (.call 8 (.cons (.comp (.one 9) .plain (.cons (.var 3) .nil) (.con (.bool true)) (.ite (.cmp .Eq (.var 9) (.con (.int 0))) (.con (.int 0)) (.var 1))) .nil) 0) .nil) (E7 T m σ (some .none) none none none none) = .ok [.list ((rowsP (topsOf σ)).map fun r => tab r)] := by
      refine evs1 ((ev_call (evs1 hc)).trans ?_)
      have eZ : (Zn 5).call = callN (fun _ => .bad) (dfltOf ds) (ds.map Dd.fn) 5 := rfl
      rw [eZ]
      exact rows (by simp [hσl]; omega) ht4 4
    obtain ⟨best, x5, x6, x7, x8, hx, hbest⟩ := lw_loop h hσl (rs := rowsP (topsOf σ)) (fun r hr => ⟨by rw [fits_len (rows_fit hr)]; simp [hσl], fun k _ => fits_small (rows_fit hr) ht4 k⟩) hrows rfl
    have c9 : ev (Zn 5) (.cmp .Is (.var 4) (.con .none)) (E7 T m σ (some best) x5 x6 x7 x8) = .ok (.bool (isN best)) := ev_cmp (x := best) rfl rfl (is_none best)
    have hret : ∃ d, ev (Zn 5) (.ite (.cmp .Is (.var 4) (.con .none)) (.con .none) (.tup (.cons (.ix (.ix (.var 4) (.con (.int 0))) (.con (.int 1))) (.cons (.ix (.var 4) (.con (.int 1))) .nil)))) (E7 T m σ (some best) x5 x6 x7 x8) = .ok d ∧ isN d = isN best := by
      rcases hbest with ⟨rfl, _⟩ | ⟨r, b, rfl, _⟩
      · exact ⟨.none, (ev_ite (tr_of c9)).trans rfl, rfl⟩
      · exact ⟨.tuple [tab (sgn m σ r), .int b], (ev_ite (tr_of c9)).trans ((if_neg (by simp [isN])).trans (ev_tup (evs2 rfl rfl))), rfl⟩
    obtain ⟨d, hd, hdn⟩ := hret
    refine ⟨d, run_rt (Z := Zn 5) (f := f7) (δ := [some (tab T), some (.int 4), none, none, none, none, none, none, none, none, none]) rfl rfl (pre ?_), fun z => ?_, fun r b _ hf hT => ?_⟩
    · refine (seq_nx ((ite_f (tr_of c4)).trans ex_nil)).trans ?_
      rw [eσ]
      refine (seq_nx (δ' := E7 T m σ (some .none) none none none none) (set_ok rfl)).trans ?_
      exact (seq_nx hx).trans (seq_out (ret_ok hd) (fun _ z => nomatch z))
    · rcases hbest with ⟨rfl, _⟩ | ⟨r, b, rfl, hr⟩
      · rw [hdn] at z; simp [isN] at z
      · exact hr
    · rcases hbest with ⟨rfl, hno⟩ | ⟨r, b, rfl, hr⟩
      · exact absurd hT (hno r (mem_rows hf) b)
      · exact hdn
end Lk27

set_option Elab.async false
set_option linter.all false
set_option maxRecDepth 1000000
set_option maxHeartbeats 4000000
/-! k27, the plain law: which tables weights can say (wit.py printed the witnesses). -/
namespace Lk27
open PySem EV
def digits : Nat → Nat → List Int
  | 0, _ => []
  | m + 1, c => ((c % 5 : Nat) : Int) :: digits m (c / 5)
def leafB (m : Nat) (T : List Int) (c : Nat) : Bool :=
  !(sgs m T).any (·.isNone) && fitsB (topsOf ((sgs m T).map fun o => o.getD 0)) (digits m (c % 625)) && decide (tabOf (sgn m ((sgs m T).map fun o => o.getD 0) (digits m (c % 625))) (((c / 625 : Nat) : Int) - 32) m = T) &&
  (small (learn m T 200 (ps0 m)).w (learn m T 200 (ps0 m)).b && decide (tabOf (learn m T 200 (ps0 m)).w (learn m T 200 (ps0 m)).b m = T))
def cut (qs : List (Nat × Nat × Nat)) (pre : List Int) (v : Int) : Bool := qs.any fun x => decide (pre.getD x.1 0 = v) && (decide (pre.getD x.2.1 0 = 1 - v) && decide (pre.getD x.2.2 0 = 1 - v))
def cover (m : Nat) : List (List (Nat × Nat × Nat)) → List Int → List Nat → Option (List Nat)
  | [], pre, c :: ws => if leafB m pre c = true then some ws else none
  | [], _, [] => none
  | qs :: Q, pre, ws => match (if cut qs (pre ++ [0]) 0 = true then some ws else cover m Q (pre ++ [0]) ws) with
    | some ws1 => if cut qs (pre ++ [1]) 1 = true then some ws1 else cover m Q (pre ++ [1]) ws1
    | none => none
def bt (p k : Nat) : Nat := if p.testBit k then 1 else 0
def validQ (m j : Nat) (x : Nat × Nat × Nat) : Bool := decide (x.1 < j) && (decide (x.2.1 < j) && (decide (x.2.2 < j) && (List.range m).all fun k => decide (bt j k + bt x.1 k = bt x.2.1 k + bt x.2.2 k)))
def validL (m : Nat) : Nat → List (List (Nat × Nat × Nat)) → Bool
  | _, [] => true
  | j, qs :: Q => qs.all (validQ m j) && validL m (j + 1) Q
theorem dot_sum (w : List Int) (p : Nat) : ∀ L : List Nat, ((L.filter fun k => p.testBit k).map fun k => w.getD k 0).sum = (L.map fun k => (bt p k : Int) * w.getD k 0).sum
  | [] => rfl
  | k :: L => by
    rw [List.filter_cons, List.map_cons, List.sum_cons, ← dot_sum w p L]
    unfold bt
    cases p.testBit k with
    | true => rw [if_pos rfl, if_pos rfl, List.map_cons, List.sum_cons]; simp
    | false => rw [if_neg Bool.false_ne_true, if_neg Bool.false_ne_true]; simp
theorem sum_quad (w : List Int) (a b c d : Nat) : ∀ L : List Nat, (∀ k ∈ L, bt a k + bt b k = bt c k + bt d k) → (L.map fun k => (bt a k : Int) * w.getD k 0).sum + (L.map fun k => (bt b k : Int) * w.getD k 0).sum = (L.map fun k => (bt c k : Int) * w.getD k 0).sum + (L.map fun k => (bt d k : Int) * w.getD k 0).sum
  | [], _ => rfl
  | k :: L, h => by
    have ih := sum_quad w a b c d L fun k hk => h k (List.mem_cons_of_mem _ hk)
    have e := h k List.mem_cons_self
    simp only [List.map_cons, List.sum_cons]
    have e2 : ((bt a k : Int) + bt b k) * w.getD k 0 = ((bt c k : Int) + bt d k) * w.getD k 0 := by
      congr 1
      omega
    rw [Int.add_mul, Int.add_mul] at e2
    omega
theorem cut_no {m : Nat} {T w : List Int} {b : Int} (h : IsT m T) (hT : tabOf w b m = T) {j : Nat} (hj : j < 2 ^ m) {qs : List (Nat × Nat × Nat)} (hv : qs.all (validQ m j) = true) : cut qs (T.take (j + 1)) (T.getD j 0) = false := by
  have q := (tabOf_iff h).mp hT
  rw [cut, List.any_eq_false]
  intro x hx z
  have v := List.all_eq_true.mp hv x hx
  unfold validQ at v
  simp only [Bool.and_eq_true, decide_eq_true_eq, List.all_eq_true, List.mem_range] at v z
  obtain ⟨v1, v2, v3, v4⟩ := v
  obtain ⟨z1, z2, z3⟩ := z
  have g : ∀ i, i < j → (T.take (j + 1)).getD i 0 = T.getD i 0 := fun i hi => by
    rw [List.getD_eq_getElem?_getD, List.getD_eq_getElem?_getD, List.getElem?_take_of_lt (by omega)]
  rw [g _ v1] at z1
  rw [g _ v2] at z2
  rw [g _ v3] at z3
  have e : dot w m j + dot w m x.1 = dot w m x.2.1 + dot w m x.2.2 := by
    unfold dot
    rw [dot_sum, dot_sum, dot_sum, dot_sum]
    exact sum_quad w j x.1 x.2.1 x.2.2 (List.range m) fun k hk => v4 k (List.mem_range.mp hk)
  have b0 : T.getD j 0 = 0 ∨ T.getD j 0 = 1 := by
    refine h.bit _ ?_
    rw [List.getD_eq_getElem?_getD, List.getElem?_eq_getElem (by rw [h.len]; exact hj)]
    exact List.getElem_mem _
  have q0 := q j hj
  have q1 := q x.1 (by omega)
  have q2 := q x.2.1 (by omega)
  have q3 := q x.2.2 (by omega)
  rcases b0 with b0 | b0
  · rw [b0] at z1 z2 z3
    have a0 := q0.2 b0
    have a1 := q1.2 z1
    have a2 := q2.1 (by omega)
    have a3 := q3.1 (by omega)
    omega
  · rw [b0] at z1 z2 z3
    have a0 := q0.1 b0
    have a1 := q1.1 z1
    have a2 := q2.2 (by omega)
    have a3 := q3.2 (by omega)
    omega
theorem cover_ok {m : Nat} {T w : List Int} {b : Int} (h : IsT m T) (hT : tabOf w b m = T) : ∀ (Q : List (List (Nat × Nat × Nat))) (j : Nat) (ws ws' : List Nat), j + Q.length = 2 ^ m → validL m j Q = true → cover m Q (T.take j) ws = some ws' → ∃ c, leafB m T c = true
  | [], j, ws, ws', hl, _, hc => by
    have e : T.take j = T := List.take_of_length_le (by rw [h.len]; simp at hl; omega)
    rw [e] at hc
    cases ws with
    | nil => cases hc
    | cons c ws =>
      refine ⟨c, ?_⟩
      unfold cover at hc
      split at hc
      · assumption
      · cases hc
  | qs :: Q, j, ws, ws', hl, hv, hc => by
    rw [List.length_cons] at hl
    have hj : j < 2 ^ m := by omega
    unfold validL at hv
    rw [Bool.and_eq_true] at hv
    have hcut := cut_no h hT hj hv.1
    have e : T.take (j + 1) = T.take j ++ [T.getD j 0] := by
      rw [List.take_add_one, List.getD_eq_getElem?_getD, List.getElem?_eq_getElem (by rw [h.len]; exact hj)]
      rfl
    have b0 : T.getD j 0 = 0 ∨ T.getD j 0 = 1 := by
      refine h.bit _ ?_
      rw [List.getD_eq_getElem?_getD, List.getElem?_eq_getElem (by rw [h.len]; exact hj)]
      exact List.getElem_mem _
    unfold cover at hc
    rcases b0 with b0 | b0
    · rw [b0] at e hcut
      rw [← e, hcut, if_neg Bool.false_ne_true] at hc
      cases h1 : cover m Q (T.take (j + 1)) ws with
      | none => rw [h1] at hc; cases hc
      | some ws1 => exact cover_ok h hT Q (j + 1) ws ws1 (by omega) hv.2 h1
    · rw [b0] at e hcut
      split at hc
      · rename_i ws1 _
        rw [← e, hcut, if_neg Bool.false_ne_true] at hc
        exact cover_ok h hT Q (j + 1) ws1 ws' (by omega) hv.2 hc
      · cases hc
def Q0 : List (List (Nat × Nat × Nat)) := [[]]
def W0 : List Nat := [20625, 20000]
theorem v0 : validL 0 0 Q0 = true := by decide +kernel
theorem cov0 : cover 0 Q0 [] W0 = some [] := by decide +kernel
def Q1 : List (List (Nat × Nat × Nat)) := [[], []]
def W1 : List Nat := [20625, 20626, 20001, 20000]
theorem v1 : validL 1 0 Q1 = true := by decide +kernel
theorem cov1 : cover 1 Q1 [] W1 = some [] := by decide +kernel
def Q2 : List (List (Nat × Nat × Nat)) := [[], [], [], [(0, 1, 2)]]
def W2 : List Nat := [20625, 21256, 20631, 20630, 20631, 20626, 20631, 20006, 20001, 20006, 20005, 20006, 19381, 20000]
theorem v2 : validL 2 0 Q2 = true := by decide +kernel
theorem cov2 : cover 2 Q2 [] W2 = some [] := by decide +kernel
def Q3 : List (List (Nat × Nat × Nat)) := [[], [], [], [(0, 1, 2)], [], [(0, 1, 4), (2, 3, 4)], [(0, 2, 4), (1, 2, 5), (1, 3, 4)], [(0, 1, 6), (0, 2, 5), (0, 3, 4), (1, 3, 5), (2, 3, 6), (4, 5, 6)]]
def W3 : List Nat := [20625, 21906, 21281, 21280, 21281, 21276, 21931, 20656, 20651, 21306, 20655, 21306, 20681, 20650, 21281, 21256, 21911, 21907, 21281, 21306, 20656, 20631, 21286, 20657, 20656, 20681, 20655, 21286, 20661, 20630, 21286, 20661, 20655, 20656, 20631, 21282, 20661, 20656, 20681, 20651, 21282, 20657, 20626, 21282, 20657, 20651, 20681, 20656, 20661, 20657, 20631, 20656, 20031, 20006, 20032, 20036, 20031, 20056, 20026, 20032, 19407, 20001, 20032, 19407, 20026, 20056, 20031, 20036, 19407, 20006, 20031, 20030, 20036, 19411, 20005, 20036, 19411, 20030, 20056, 20031, 20032, 19411, 20006, 20031, 19431, 19406, 18782, 18786, 19381, 19406, 20025, 20056, 19431, 20030, 19431, 20026, 20031, 18806, 19401, 19406, 19405, 19406, 18781, 20000]
theorem v3 : validL 3 0 Q3 = true := by decide +kernel
theorem cov3 : cover 3 Q3 [] W3 = some [] := by decide +kernel
end Lk27

set_option Elab.async false
set_option linter.all false
set_option maxRecDepth 1000000
set_option maxHeartbeats 0
/-! k27: the tables of 4 letters, by their first places. -/
namespace Lk27
open PySem EV
def front : List (List (Nat × Nat × Nat)) → List Int → List (List Int)
  | [], pre => [pre]
  | qs :: Q, pre => (if cut qs (pre ++ [0]) 0 = true then [] else front Q (pre ++ [0])) ++ (if cut qs (pre ++ [1]) 1 = true then [] else front Q (pre ++ [1]))
theorem front_ok {m : Nat} {T w : List Int} {b : Int} (h : IsT m T) (hT : tabOf w b m = T) : ∀ (Q : List (List (Nat × Nat × Nat))) (j : Nat), j + Q.length ≤ 2 ^ m → validL m j Q = true → T.take (j + Q.length) ∈ front Q (T.take j)
  | [], j, _, _ => List.mem_singleton.mpr rfl
  | qs :: Q, j, hl, hv => by
    rw [List.length_cons] at hl ⊢
    have hj : j < 2 ^ m := by omega
    unfold validL at hv
    rw [Bool.and_eq_true] at hv
    have hcut := cut_no h hT hj hv.1
    have e : T.take (j + 1) = T.take j ++ [T.getD j 0] := by
      rw [List.take_add_one, List.getD_eq_getElem?_getD, List.getElem?_eq_getElem (by rw [h.len]; exact hj)]
      rfl
    have b0 : T.getD j 0 = 0 ∨ T.getD j 0 = 1 := by
      refine h.bit _ ?_
      rw [List.getD_eq_getElem?_getD, List.getElem?_eq_getElem (by rw [h.len]; exact hj)]
      exact List.getElem_mem _
    have ih := front_ok h hT Q (j + 1) (by omega) hv.2
    rw [show j + 1 + Q.length = j + (Q.length + 1) by omega] at ih
    unfold front
    rcases b0 with b0 | b0
    · rw [b0] at e hcut
      refine List.mem_append_left _ ?_
      rw [← e, hcut, if_neg Bool.false_ne_true]
      exact ih
    · rw [b0] at e hcut
      refine List.mem_append_right _ ?_
      rw [← e, hcut, if_neg Bool.false_ne_true]
      exact ih
def Q4a : List (List (Nat × Nat × Nat)) := [[], [], [], [(0, 1, 2)], [], [(0, 1, 4), (2, 3, 4)], [(0, 2, 4), (1, 2, 5), (1, 3, 4)], [(0, 1, 6), (0, 2, 5), (0, 3, 4), (1, 3, 5), (2, 3, 6), (4, 5, 6)]]
def Q4b : List (List (Nat × Nat × Nat)) := [[], [(0, 1, 8), (2, 3, 8), (4, 5, 8), (6, 7, 8)], [(0, 2, 8), (1, 2, 9), (1, 3, 8), (4, 6, 8), (5, 6, 9), (5, 7, 8)], [(0, 1, 10), (0, 2, 9), (0, 3, 8), (1, 3, 9), (2, 3, 10), (4, 5, 10), (4, 6, 9), (4, 7, 8), (5, 7, 9), (6, 7, 10), (8, 9, 10)], [(0, 4, 8), (1, 4, 9), (1, 5, 8), (2, 4, 10), (2, 6, 8), (3, 4, 11), (3, 5, 10), (3, 6, 9), (3, 7, 8)], [(0, 1, 12), (0, 4, 9), (0, 5, 8), (1, 5, 9), (2, 3, 12), (2, 4, 11), (2, 5, 10), (2, 6, 9), (2, 7, 8), (3, 5, 11), (3, 7, 9), (4, 5, 12), (6, 7, 12), (8, 9, 12), (10, 11, 12)], [(0, 2, 12), (0, 4, 10), (0, 6, 8), (1, 2, 13), (1, 3, 12), (1, 4, 11), (1, 5, 10), (1, 6, 9), (1, 7, 8), (2, 6, 10), (3, 6, 11), (3, 7, 10), (4, 6, 12), (5, 6, 13), (5, 7, 12), (8, 10, 12), (9, 10, 13), (9, 11, 12)], [(0, 1, 14), (0, 2, 13), (0, 3, 12), (0, 4, 11), (0, 5, 10), (0, 6, 9), (0, 7, 8), (1, 3, 13), (1, 5, 11), (1, 7, 9), (2, 3, 14), (2, 6, 11), (2, 7, 10), (3, 7, 11), (4, 5, 14), (4, 6, 13), (4, 7, 12), (5, 7, 13), (6, 7, 14), (8, 9, 14), (8, 10, 13), (8, 11, 12), (9, 11, 13), (10, 11, 14), (12, 13, 14)]]
theorem v4a : validL 4 0 Q4a = true := by decide +kernel
theorem v4b : validL 4 8 Q4b = true := by decide +kernel
def fr4 : List (List Int) := [[0, 0, 0, 0, 0, 0, 0, 0], [0, 0, 0, 0, 0, 0, 0, 1], [0, 0, 0, 0, 0, 0, 1, 0], [0, 0, 0, 0, 0, 0, 1, 1], [0, 0, 0, 0, 0, 1, 0, 0], [0, 0, 0, 0, 0, 1, 0, 1], [0, 0, 0, 0, 0, 1, 1, 1], [0, 0, 0, 0, 1, 0, 0, 0], [0, 0, 0, 0, 1, 0, 1, 0], [0, 0, 0, 0, 1, 0, 1, 1], [0, 0, 0, 0, 1, 1, 0, 0], [0, 0, 0, 0, 1, 1, 0, 1], [0, 0, 0, 0, 1, 1, 1, 0], [0, 0, 0, 0, 1, 1, 1, 1], [0, 0, 0, 1, 0, 0, 0, 0], [0, 0, 0, 1, 0, 0, 0, 1], [0, 0, 0, 1, 0, 0, 1, 1], [0, 0, 0, 1, 0, 1, 0, 1], [0, 0, 0, 1, 0, 1, 1, 1], [0, 0, 0, 1, 1, 1, 1, 1], [0, 0, 1, 0, 0, 0, 0, 0], [0, 0, 1, 0, 0, 0, 1, 0], [0, 0, 1, 0, 0, 0, 1, 1], [0, 0, 1, 0, 1, 0, 1, 0], [0, 0, 1, 0, 1, 0, 1, 1], [0, 0, 1, 0, 1, 1, 1, 1], [0, 0, 1, 1, 0, 0, 0, 0], [0, 0, 1, 1, 0, 0, 0, 1], [0, 0, 1, 1, 0, 0, 1, 0], [0, 0, 1, 1, 0, 0, 1, 1], [0, 0, 1, 1, 0, 1, 1, 1], [0, 0, 1, 1, 1, 0, 1, 1], [0, 0, 1, 1, 1, 1, 1, 1], [0, 1, 0, 0, 0, 0, 0, 0], [0, 1, 0, 0, 0, 1, 0, 0], [0, 1, 0, 0, 0, 1, 0, 1], [0, 1, 0, 0, 1, 1, 0, 0], [0, 1, 0, 0, 1, 1, 0, 1], [0, 1, 0, 0, 1, 1, 1, 1], [0, 1, 0, 1, 0, 0, 0, 0], [0, 1, 0, 1, 0, 0, 0, 1], [0, 1, 0, 1, 0, 1, 0, 0], [0, 1, 0, 1, 0, 1, 0, 1], [0, 1, 0, 1, 0, 1, 1, 1], [0, 1, 0, 1, 1, 1, 0, 1], [0, 1, 0, 1, 1, 1, 1, 1], [0, 1, 1, 1, 0, 0, 0, 0], [0, 1, 1, 1, 0, 0, 0, 1], [0, 1, 1, 1, 0, 0, 1, 1], [0, 1, 1, 1, 0, 1, 0, 1], [0, 1, 1, 1, 0, 1, 1, 1], [0, 1, 1, 1, 1, 1, 1, 1], [1, 0, 0, 0, 0, 0, 0, 0], [1, 0, 0, 0, 1, 0, 0, 0], [1, 0, 0, 0, 1, 0, 1, 0], [1, 0, 0, 0, 1, 1, 0, 0], [1, 0, 0, 0, 1, 1, 1, 0], [1, 0, 0, 0, 1, 1, 1, 1], [1, 0, 1, 0, 0, 0, 0, 0], [1, 0, 1, 0, 0, 0, 1, 0], [1, 0, 1, 0, 1, 0, 0, 0], [1, 0, 1, 0, 1, 0, 1, 0], [1, 0, 1, 0, 1, 0, 1, 1], [1, 0, 1, 0, 1, 1, 1, 0], [1, 0, 1, 0, 1, 1, 1, 1], [1, 0, 1, 1, 0, 0, 0, 0], [1, 0, 1, 1, 0, 0, 1, 0], [1, 0, 1, 1, 0, 0, 1, 1], [1, 0, 1, 1, 1, 0, 1, 0], [1, 0, 1, 1, 1, 0, 1, 1], [1, 0, 1, 1, 1, 1, 1, 1], [1, 1, 0, 0, 0, 0, 0, 0], [1, 1, 0, 0, 0, 1, 0, 0], [1, 1, 0, 0, 1, 0, 0, 0], [1, 1, 0, 0, 1, 1, 0, 0], [1, 1, 0, 0, 1, 1, 0, 1], [1, 1, 0, 0, 1, 1, 1, 0], [1, 1, 0, 0, 1, 1, 1, 1], [1, 1, 0, 1, 0, 0, 0, 0], [1, 1, 0, 1, 0, 1, 0, 0], [1, 1, 0, 1, 0, 1, 0, 1], [1, 1, 0, 1, 1, 1, 0, 0], [1, 1, 0, 1, 1, 1, 0, 1], [1, 1, 0, 1, 1, 1, 1, 1], [1, 1, 1, 0, 0, 0, 0, 0], [1, 1, 1, 0, 1, 0, 0, 0], [1, 1, 1, 0, 1, 0, 1, 0], [1, 1, 1, 0, 1, 1, 0, 0], [1, 1, 1, 0, 1, 1, 1, 0], [1, 1, 1, 0, 1, 1, 1, 1], [1, 1, 1, 1, 0, 0, 0, 0], [1, 1, 1, 1, 0, 0, 0, 1], [1, 1, 1, 1, 0, 0, 1, 0], [1, 1, 1, 1, 0, 0, 1, 1], [1, 1, 1, 1, 0, 1, 0, 0], [1, 1, 1, 1, 0, 1, 0, 1], [1, 1, 1, 1, 0, 1, 1, 1], [1, 1, 1, 1, 1, 0, 0, 0], [1, 1, 1, 1, 1, 0, 1, 0], [1, 1, 1, 1, 1, 0, 1, 1], [1, 1, 1, 1, 1, 1, 0, 0], [1, 1, 1, 1, 1, 1, 0, 1], [1, 1, 1, 1, 1, 1, 1, 0], [1, 1, 1, 1, 1, 1, 1, 1]]
theorem fr4_eq : front Q4a [] = fr4 := by decide +kernel
theorem q4t0 : cover 4 Q4b [0, 0, 0, 0, 0, 0, 0, 0] [20625, 22656, 22031, 22030, 22031, 22026, 23431, 21406, 21401, 22806, 21405, 22806, 22181, 21400, 22031, 22006, 23411, 23407, 22781, 23556, 21406, 21381, 22786, 22157, 22156, 22931, 21405, 22786, 22161, 21380, 23536, 22911, 22155, 21406, 21381, 22782, 22161, 22156, 22931, 21401, 22782, 22157, 21376, 23532, 22907, 22151, 22181, 22156, 22911, 22907, 22131, 22906, 20781, 20756, 21532, 21536, 21531, 22306, 20776, 21532, 20907, 20751, 22282, 21657, 21526, 21556, 21531, 22286, 21657, 21506, 22281, 20780, 21536, 20911, 20755, 22286, 21661, 21530, 21556, 21531, 22282, 21661, 21506, 22281, 20931, 20906, 21032, 21036, 20881, 21656, 20775, 22306, 21681, 21530, 21681, 21526, 22281, 21056, 20901, 21656, 20905, 21656, 21031, 20750] = some [] := by decide +kernel
theorem q4t1 : cover 4 Q4b [0, 0, 0, 0, 0, 0, 0, 1] [22031, 21906, 23311, 23307, 22681, 23456, 23287, 22661, 22657, 22031, 22806, 23416, 22786, 23561, 23408, 22782, 23557, 23537, 22156, 22281] = some [] := by decide +kernel
theorem q4t2 : cover 4 Q4b [0, 0, 0, 0, 0, 0, 1, 0] [21406, 21281, 22686, 22057, 22056, 22831, 22037, 22036, 21407, 21406, 22181, 22791, 22161, 22936, 21533, 21532, 22307, 22287, 21531, 21656] = some [] := by decide +kernel
theorem q4t3 : cover 4 Q4b [0, 0, 0, 0, 0, 0, 1, 1] [21405, 22686, 22061, 21280, 23336, 22711, 22055, 23316, 22686, 23461, 22691, 22061, 22836, 22035, 23441, 22816, 21405, 22936, 22311, 21530] = some [] := by decide +kernel
theorem q4t4 : cover 4 Q4b [0, 0, 0, 0, 0, 1, 0, 0] [21406, 21281, 22682, 22061, 22056, 22831, 22037, 22032, 21411, 21406, 22181, 22783, 22157, 22932, 21541, 21536, 22311, 22287, 21531, 21656] = some [] := by decide +kernel
theorem q4t5 : cover 4 Q4b [0, 0, 0, 0, 0, 1, 0, 1] [21401, 22682, 22057, 21276, 23332, 22707, 22051, 23308, 22682, 23457, 22683, 22057, 22832, 22027, 23433, 22808, 21401, 22932, 22307, 21526] = some [] := by decide +kernel
theorem q4t6 : cover 4 Q4b [0, 0, 0, 0, 0, 1, 1, 1] [22181, 22056, 22711, 22707, 21931, 22706, 23337, 22056, 22836, 22832, 22181, 22306] = some [] := by decide +kernel
theorem q4t7 : cover 4 Q4b [0, 0, 0, 0, 1, 0, 0, 0] [20781, 20656, 21432, 21436, 21431, 22206, 20787, 20782, 20786, 20781, 21556, 20908, 20907, 21682, 20916, 20911, 21686, 21037, 20906, 21031] = some [] := by decide +kernel
theorem q4t8 : cover 4 Q4b [0, 0, 0, 0, 1, 0, 1, 0] [20776, 21432, 20807, 20651, 22082, 21457, 21426, 21433, 21432, 22207, 20808, 20807, 21582, 20777, 21558, 20933, 20776, 21682, 21057, 20901] = some [] := by decide +kernel
theorem q4t9 : cover 4 Q4b [0, 0, 0, 0, 1, 0, 1, 1] [21556, 21431, 22086, 21457, 21306, 22081, 22087, 21431, 22211, 21582, 21556, 21681] = some [] := by decide +kernel
theorem q4t10 : cover 4 Q4b [0, 0, 0, 0, 1, 1, 0, 0] [20780, 21436, 20811, 20655, 22086, 21461, 21430, 21441, 21436, 22211, 20816, 20811, 21586, 20785, 21566, 20941, 20780, 21686, 21061, 20905] = some [] := by decide +kernel
theorem q4t11 : cover 4 Q4b [0, 0, 0, 0, 1, 1, 0, 1] [21556, 21431, 22082, 21461, 21306, 22081, 22087, 21431, 22207, 21586, 21556, 21681] = some [] := by decide +kernel
theorem q4t12 : cover 4 Q4b [0, 0, 0, 0, 1, 1, 1, 0] [20931, 20806, 20832, 20836, 20681, 21456, 20837, 20806, 20957, 20961, 20931, 21056] = some [] := by decide +kernel
theorem q4t13 : cover 4 Q4b [0, 0, 0, 0, 1, 1, 1, 1] [20775, 22206, 21581, 21430, 21581, 21426, 22081, 20956, 20801, 21456, 20805, 21456, 20831, 20650, 22081, 21456, 21430, 21456, 21426, 22206, 20831, 20801, 21581, 20805, 21581, 20956, 20775] = some [] := by decide +kernel
theorem q4t14 : cover 4 Q4b [0, 0, 0, 1, 0, 0, 0, 0] [21406, 21281, 22662, 22061, 22036, 22791, 22057, 22032, 22783, 21431, 21406, 22161, 22157, 22912, 21581, 21556, 22311, 22307, 21531, 21656] = some [] := by decide +kernel
theorem q4t15 : cover 4 Q4b [0, 0, 0, 1, 0, 0, 0, 1] [21381, 22662, 22037, 21256, 23292, 23288, 22662, 22667, 22011, 23417, 22663, 22007, 23413, 22037, 22792, 22788, 21381, 22912, 22287, 21506] = some [] := by decide +kernel
theorem q4t16 : cover 4 Q4b [0, 0, 0, 1, 0, 0, 1, 1] [22161, 22036, 22691, 22667, 21911, 23317, 22666, 22036, 22816, 22792, 22161, 22286] = some [] := by decide +kernel
theorem q4t17 : cover 4 Q4b [0, 0, 0, 1, 0, 1, 0, 1] [22157, 22032, 22683, 22663, 21907, 23313, 22658, 22032, 22808, 22788, 22157, 22282] = some [] := by decide +kernel
theorem q4t18 : cover 4 Q4b [0, 0, 0, 1, 0, 1, 1, 1] [21531, 21406, 22061, 22057, 22712, 22037, 22692, 22688, 21281, 22712, 22692, 22061, 22688, 22057, 22037, 21406, 21531] = some [] := by decide +kernel
theorem q4t19 : cover 4 Q4b [0, 0, 0, 1, 1, 1, 1, 1] [21681, 21556, 22211, 22207, 21431, 21456, 22087, 21306, 22086, 22082, 21431, 21556] = some [] := by decide +kernel
theorem q4t20 : cover 4 Q4b [0, 0, 1, 0, 0, 0, 0, 0] [20781, 20656, 21412, 21436, 21411, 22166, 20807, 20782, 20908, 20806, 20781, 21536, 20907, 21662, 20956, 20931, 21686, 21057, 20906, 21031] = some [] := by decide +kernel
theorem q4t21 : cover 4 Q4b [0, 0, 1, 0, 0, 0, 1, 0] [20756, 21412, 20787, 20631, 22042, 21413, 21412, 21417, 21386, 22167, 20788, 20757, 21538, 20787, 21542, 20913, 20756, 21662, 21037, 20881] = some [] := by decide +kernel
theorem q4t22 : cover 4 Q4b [0, 0, 1, 0, 0, 0, 1, 1] [21536, 21411, 22066, 21417, 21286, 22067, 22041, 21411, 22191, 21542, 21536, 21661] = some [] := by decide +kernel
theorem q4t23 : cover 4 Q4b [0, 0, 1, 0, 1, 0, 1, 0] [20907, 20782, 20808, 20788, 20657, 21438, 20783, 20782, 20933, 20913, 20907, 21032] = some [] := by decide +kernel
theorem q4t24 : cover 4 Q4b [0, 0, 1, 0, 1, 0, 1, 1] [20906, 20781, 21436, 20807, 21462, 20787, 21442, 20813, 20656, 21462, 21442, 21436, 20813, 20807, 20787, 20781, 20906] = some [] := by decide +kernel
theorem q4t25 : cover 4 Q4b [0, 0, 1, 0, 1, 1, 1, 1] [21056, 20931, 21586, 20957, 20806, 20831, 20837, 20681, 21461, 20832, 20806, 20931] = some [] := by decide +kernel
theorem q4t26 : cover 4 Q4b [0, 0, 1, 1, 0, 0, 0, 0] [20780, 21436, 20811, 20655, 22066, 21441, 21410, 21461, 21436, 22191, 20836, 20811, 21566, 20805, 21586, 20961, 20780, 21686, 21061, 20905] = some [] := by decide +kernel
theorem q4t27 : cover 4 Q4b [0, 0, 1, 1, 0, 0, 0, 1] [21536, 21411, 22042, 21441, 21286, 22041, 22067, 21411, 22167, 21566, 21536, 21661] = some [] := by decide +kernel
theorem q4t28 : cover 4 Q4b [0, 0, 1, 1, 0, 0, 1, 0] [20911, 20786, 20792, 20816, 20661, 21416, 20817, 20786, 20917, 20941, 20911, 21036] = some [] := by decide +kernel
theorem q4t29 : cover 4 Q4b [0, 0, 1, 1, 0, 0, 1, 1] [20755, 22166, 21541, 21410, 21541, 21386, 22041, 20916, 20761, 21416, 20785, 21416, 20791, 20630, 22041, 21416, 21410, 21416, 21386, 22166, 20791, 20761, 21541, 20785, 21541, 20916, 20755] = some [] := by decide +kernel
theorem q4t30 : cover 4 Q4b [0, 0, 1, 1, 0, 1, 1, 1] [21661, 21536, 22191, 22167, 21411, 22067, 21416, 21286, 22066, 22042, 21411, 21536] = some [] := by decide +kernel
theorem q4t31 : cover 4 Q4b [0, 0, 1, 1, 1, 0, 1, 1] [21036, 20911, 21566, 20917, 20786, 20817, 20791, 20661, 21441, 20792, 20786, 20911] = some [] := by decide +kernel
theorem q4t32 : cover 4 Q4b [0, 0, 1, 1, 1, 1, 1, 1] [20905, 21686, 21061, 20780, 21586, 20961, 20805, 21566, 21436, 21461, 20941, 20811, 20836, 20785, 21441, 20816, 20655, 21436, 20811, 20780] = some [] := by decide +kernel
theorem q4t33 : cover 4 Q4b [0, 1, 0, 0, 0, 0, 0, 0] [20781, 20656, 21412, 21432, 21407, 22158, 20811, 20786, 20916, 20806, 20781, 21532, 20911, 21662, 20956, 20931, 21682, 21061, 20906, 21031] = some [] := by decide +kernel
theorem q4t34 : cover 4 Q4b [0, 1, 0, 0, 0, 1, 0, 0] [20756, 21412, 20787, 20631, 22038, 21417, 21412, 21413, 21382, 22163, 20792, 20761, 21542, 20787, 21538, 20917, 20756, 21662, 21037, 20881] = some [] := by decide +kernel
theorem q4t35 : cover 4 Q4b [0, 1, 0, 0, 0, 1, 0, 1] [21532, 21407, 22058, 21413, 21282, 22063, 22033, 21407, 22183, 21538, 21532, 21657] = some [] := by decide +kernel
theorem q4t36 : cover 4 Q4b [0, 1, 0, 0, 1, 1, 0, 0] [20911, 20786, 20816, 20792, 20661, 21442, 20791, 20786, 20941, 20917, 20911, 21036] = some [] := by decide +kernel
theorem q4t37 : cover 4 Q4b [0, 1, 0, 0, 1, 1, 0, 1] [20906, 20781, 21432, 20811, 21462, 20787, 21438, 20817, 20656, 21462, 21438, 21432, 20817, 20811, 20787, 20781, 20906] = some [] := by decide +kernel
theorem q4t38 : cover 4 Q4b [0, 1, 0, 0, 1, 1, 1, 1] [21056, 20931, 21582, 20961, 20806, 20831, 20837, 20681, 21457, 20836, 20806, 20931] = some [] := by decide +kernel
theorem q4t39 : cover 4 Q4b [0, 1, 0, 1, 0, 0, 0, 0] [20776, 21432, 20807, 20651, 22058, 21433, 21402, 21457, 21432, 22183, 20832, 20807, 21558, 20801, 21582, 20957, 20776, 21682, 21057, 20901] = some [] := by decide +kernel
theorem q4t40 : cover 4 Q4b [0, 1, 0, 1, 0, 0, 0, 1] [21532, 21407, 22038, 21433, 21282, 22033, 22063, 21407, 22163, 21558, 21532, 21657] = some [] := by decide +kernel
theorem q4t41 : cover 4 Q4b [0, 1, 0, 1, 0, 1, 0, 0] [20907, 20782, 20788, 20808, 20657, 21408, 20813, 20782, 20913, 20933, 20907, 21032] = some [] := by decide +kernel
theorem q4t42 : cover 4 Q4b [0, 1, 0, 1, 0, 1, 0, 1] [20751, 22158, 21533, 21402, 21533, 21382, 22033, 20908, 20757, 21408, 20777, 21408, 20783, 20626, 22033, 21408, 21402, 21408, 21382, 22158, 20783, 20757, 21533, 20777, 21533, 20908, 20751] = some [] := by decide +kernel
theorem q4t43 : cover 4 Q4b [0, 1, 0, 1, 0, 1, 1, 1] [21657, 21532, 22183, 22163, 21407, 22063, 21408, 21282, 22058, 22038, 21407, 21532] = some [] := by decide +kernel
theorem q4t44 : cover 4 Q4b [0, 1, 0, 1, 1, 1, 0, 1] [21032, 20907, 21558, 20913, 20782, 20813, 20783, 20657, 21433, 20788, 20782, 20907] = some [] := by decide +kernel
theorem q4t45 : cover 4 Q4b [0, 1, 0, 1, 1, 1, 1, 1] [20901, 21682, 21057, 20776, 21582, 20957, 20801, 21558, 21432, 21457, 20933, 20807, 20832, 20777, 21433, 20808, 20651, 21432, 20807, 20776] = some [] := by decide +kernel
theorem q4t46 : cover 4 Q4b [0, 1, 1, 1, 0, 0, 0, 0] [20931, 20806, 20836, 20832, 20681, 21462, 20831, 20806, 20961, 20957, 20931, 21056] = some [] := by decide +kernel
theorem q4t47 : cover 4 Q4b [0, 1, 1, 1, 0, 0, 0, 1] [20906, 20781, 21412, 20811, 21442, 20807, 21438, 20837, 20656, 21442, 21438, 21412, 20837, 20811, 20807, 20781, 20906] = some [] := by decide +kernel
theorem q4t48 : cover 4 Q4b [0, 1, 1, 1, 0, 0, 1, 1] [21036, 20911, 21542, 20941, 20786, 20791, 20817, 20661, 21417, 20816, 20786, 20911] = some [] := by decide +kernel
theorem q4t49 : cover 4 Q4b [0, 1, 1, 1, 0, 1, 0, 1] [21032, 20907, 21538, 20933, 20782, 20783, 20813, 20657, 21413, 20808, 20782, 20907] = some [] := by decide +kernel
theorem q4t50 : cover 4 Q4b [0, 1, 1, 1, 0, 1, 1, 1] [20881, 21662, 21037, 20756, 21542, 21538, 21412, 20917, 20761, 21417, 20913, 20757, 21413, 20787, 20792, 20788, 20631, 21412, 20787, 20756] = some [] := by decide +kernel
theorem q4t51 : cover 4 Q4b [0, 1, 1, 1, 1, 1, 1, 1] [21031, 20906, 21061, 21057, 20931, 20956, 21037, 20911, 20907, 20781, 20806, 20916, 20786, 20811, 20908, 20782, 20807, 20787, 20656, 20781] = some [] := by decide +kernel
theorem q4t52 : cover 4 Q4b [1, 0, 0, 0, 0, 0, 0, 0] [20156, 20031, 20162, 20182, 20157, 20283, 20186, 20161, 20291, 20181, 20156, 20282, 20286, 20412, 20331, 20306, 20432, 20436, 20281, 20406] = some [] := by decide +kernel
theorem q4t53 : cover 4 Q4b [1, 0, 0, 0, 1, 0, 0, 0] [20131, 20162, 19537, 20006, 20163, 20167, 20162, 19538, 20132, 20288, 19542, 20136, 20292, 19537, 19663, 19667, 20131, 20412, 19787, 20256] = some [] := by decide +kernel
theorem q4t54 : cover 4 Q4b [1, 0, 0, 0, 1, 0, 1, 0] [20282, 20157, 20183, 19538, 20032, 20188, 20158, 20157, 20308, 19663, 20282, 20407] = some [] := by decide +kernel
theorem q4t55 : cover 4 Q4b [1, 0, 0, 0, 1, 1, 0, 0] [20286, 20161, 20191, 19542, 20036, 20192, 20166, 20161, 20316, 19667, 20286, 20411] = some [] := by decide +kernel
theorem q4t56 : cover 4 Q4b [1, 0, 0, 0, 1, 1, 1, 0] [20281, 20156, 20182, 20186, 20212, 19537, 19563, 19567, 20031, 20212, 19563, 20182, 19567, 20186, 19537, 20156, 20281] = some [] := by decide +kernel
theorem q4t57 : cover 4 Q4b [1, 0, 0, 0, 1, 1, 1, 1] [20431, 20306, 20332, 20336, 20181, 20206, 19587, 20056, 20207, 20211, 20181, 20306] = some [] := by decide +kernel
theorem q4t58 : cover 4 Q4b [1, 0, 1, 0, 0, 0, 0, 0] [20151, 20182, 19557, 20026, 20183, 19558, 20152, 20207, 20182, 20308, 19582, 19557, 19683, 20176, 20332, 19707, 20151, 20432, 19807, 20276] = some [] := by decide +kernel
theorem q4t59 : cover 4 Q4b [1, 0, 1, 0, 0, 0, 1, 0] [20282, 20157, 20163, 19558, 20032, 20158, 20188, 20157, 20288, 19683, 20282, 20407] = some [] := by decide +kernel
theorem q4t60 : cover 4 Q4b [1, 0, 1, 0, 1, 0, 0, 0] [19657, 19532, 18913, 18933, 19407, 19533, 18938, 19532, 19038, 19058, 19657, 19782] = some [] := by decide +kernel
theorem q4t61 : cover 4 Q4b [1, 0, 1, 0, 1, 0, 1, 0] [20126, 20283, 19658, 20152, 19658, 20132, 20158, 19033, 19507, 19533, 19527, 19533, 18908, 20001, 20158, 19533, 20152, 19533, 20132, 20283, 18908, 19507, 19658, 19527, 19658, 19033, 20126] = some [] := by decide +kernel
theorem q4t62 : cover 4 Q4b [1, 0, 1, 0, 1, 0, 1, 1] [20407, 20282, 20308, 20288, 20157, 20188, 19533, 20032, 20183, 20163, 20157, 20282] = some [] := by decide +kernel
theorem q4t63 : cover 4 Q4b [1, 0, 1, 0, 1, 1, 1, 0] [19782, 19657, 19683, 19038, 19532, 18938, 18908, 19407, 19558, 18913, 19532, 19657] = some [] := by decide +kernel
theorem q4t64 : cover 4 Q4b [1, 0, 1, 0, 1, 1, 1, 1] [20276, 20432, 19807, 20151, 20332, 19707, 20176, 19683, 20182, 20207, 19058, 19557, 19582, 19527, 19558, 18933, 20026, 20182, 19557, 20151] = some [] := by decide +kernel
theorem q4t65 : cover 4 Q4b [1, 0, 1, 1, 0, 0, 0, 0] [20306, 20181, 20211, 19582, 20056, 20212, 20206, 20181, 20336, 19707, 20306, 20431] = some [] := by decide +kernel
theorem q4t66 : cover 4 Q4b [1, 0, 1, 1, 0, 0, 1, 0] [20281, 20156, 20162, 20186, 20192, 19557, 19563, 19587, 20031, 20192, 19563, 20162, 19587, 20186, 19557, 20156, 20281] = some [] := by decide +kernel
theorem q4t67 : cover 4 Q4b [1, 0, 1, 1, 0, 0, 1, 1] [20411, 20286, 20292, 20316, 20161, 20166, 19567, 20036, 20167, 20191, 20161, 20286] = some [] := by decide +kernel
theorem q4t68 : cover 4 Q4b [1, 0, 1, 1, 1, 0, 1, 0] [19782, 19657, 19663, 19058, 19532, 18908, 18938, 19407, 19538, 18933, 19532, 19657] = some [] := by decide +kernel
theorem q4t69 : cover 4 Q4b [1, 0, 1, 1, 1, 0, 1, 1] [20256, 20412, 19787, 20131, 20292, 19663, 20162, 19667, 20136, 20167, 19038, 19507, 19538, 19537, 19542, 18913, 20006, 20162, 19537, 20131] = some [] := by decide +kernel
theorem q4t70 : cover 4 Q4b [1, 0, 1, 1, 1, 1, 1, 1] [20406, 20281, 20436, 19807, 20306, 20331, 19787, 20286, 19657, 20156, 20181, 20291, 20161, 20186, 19033, 19532, 19557, 19537, 20031, 20156] = some [] := by decide +kernel
theorem q4t71 : cover 4 Q4b [1, 1, 0, 0, 0, 0, 0, 0] [20155, 20186, 19561, 20030, 20191, 19566, 20160, 20211, 20186, 20316, 19586, 19561, 19691, 20180, 20336, 19711, 20155, 20436, 19811, 20280] = some [] := by decide +kernel
theorem q4t72 : cover 4 Q4b [1, 1, 0, 0, 0, 1, 0, 0] [20286, 20161, 20167, 19566, 20036, 20166, 20192, 20161, 20292, 19691, 20286, 20411] = some [] := by decide +kernel
theorem q4t73 : cover 4 Q4b [1, 1, 0, 0, 1, 0, 0, 0] [19661, 19536, 18917, 18941, 19411, 19541, 18942, 19536, 19042, 19066, 19661, 19786] = some [] := by decide +kernel
theorem q4t74 : cover 4 Q4b [1, 1, 0, 0, 1, 1, 0, 0] [20130, 20291, 19666, 20160, 19666, 20136, 20166, 19041, 19511, 19541, 19535, 19541, 18916, 20005, 20166, 19541, 20160, 19541, 20136, 20291, 18916, 19511, 19666, 19535, 19666, 19041, 20130] = some [] := by decide +kernel
theorem q4t75 : cover 4 Q4b [1, 1, 0, 0, 1, 1, 0, 1] [20411, 20286, 20316, 20292, 20161, 20192, 19541, 20036, 20191, 20167, 20161, 20286] = some [] := by decide +kernel
theorem q4t76 : cover 4 Q4b [1, 1, 0, 0, 1, 1, 1, 0] [19786, 19661, 19691, 19042, 19536, 18942, 18916, 19411, 19566, 18917, 19536, 19661] = some [] := by decide +kernel
theorem q4t77 : cover 4 Q4b [1, 1, 0, 0, 1, 1, 1, 1] [20280, 20436, 19811, 20155, 20336, 19711, 20180, 19691, 20186, 20211, 19066, 19561, 19586, 19535, 19566, 18941, 20030, 20186, 19561, 20155] = some [] := by decide +kernel
theorem q4t78 : cover 4 Q4b [1, 1, 0, 1, 0, 0, 0, 0] [20306, 20181, 20207, 19586, 20056, 20212, 20206, 20181, 20332, 19711, 20306, 20431] = some [] := by decide +kernel
theorem q4t79 : cover 4 Q4b [1, 1, 0, 1, 0, 1, 0, 0] [20281, 20156, 20162, 20182, 20188, 19561, 19567, 19587, 20031, 20188, 19567, 20162, 19587, 20182, 19561, 20156, 20281] = some [] := by decide +kernel
theorem q4t80 : cover 4 Q4b [1, 1, 0, 1, 0, 1, 0, 1] [20407, 20282, 20288, 20308, 20157, 20158, 19563, 20032, 20163, 20183, 20157, 20282] = some [] := by decide +kernel
theorem q4t81 : cover 4 Q4b [1, 1, 0, 1, 1, 1, 0, 0] [19786, 19661, 19667, 19066, 19536, 18916, 18942, 19411, 19542, 18941, 19536, 19661] = some [] := by decide +kernel
theorem q4t82 : cover 4 Q4b [1, 1, 0, 1, 1, 1, 0, 1] [20256, 20412, 19787, 20131, 20288, 19667, 20162, 19663, 20132, 20163, 19042, 19511, 19542, 19537, 19538, 18917, 20006, 20162, 19537, 20131] = some [] := by decide +kernel
theorem q4t83 : cover 4 Q4b [1, 1, 0, 1, 1, 1, 1, 1] [20406, 20281, 20432, 19811, 20306, 20331, 19787, 20282, 19661, 20156, 20181, 20283, 20157, 20182, 19041, 19536, 19561, 19537, 20031, 20156] = some [] := by decide +kernel
theorem q4t84 : cover 4 Q4b [1, 1, 1, 0, 0, 0, 0, 0] [19681, 19556, 18957, 18961, 19431, 18962, 19581, 19556, 19082, 19086, 19681, 19806] = some [] := by decide +kernel
theorem q4t85 : cover 4 Q4b [1, 1, 1, 0, 1, 0, 0, 0] [19656, 19531, 18912, 18932, 18313, 18936, 18317, 18337, 19406, 18313, 18317, 18912, 18337, 18932, 18936, 19531, 19656] = some [] := by decide +kernel
theorem q4t86 : cover 4 Q4b [1, 1, 1, 0, 1, 0, 1, 0] [19157, 19032, 18413, 18433, 18907, 18283, 17688, 18782, 18288, 18308, 18907, 19032] = some [] := by decide +kernel
theorem q4t87 : cover 4 Q4b [1, 1, 1, 0, 1, 1, 0, 0] [19161, 19036, 18417, 18441, 18911, 18291, 17692, 18786, 18292, 18316, 18911, 19036] = some [] := by decide +kernel
theorem q4t88 : cover 4 Q4b [1, 1, 1, 0, 1, 1, 1, 0] [19631, 19162, 18537, 19506, 18413, 18417, 18912, 17788, 18882, 18288, 17792, 18886, 18292, 18287, 17663, 17667, 19381, 18912, 18287, 19506] = some [] := by decide +kernel
theorem q4t89 : cover 4 Q4b [1, 1, 1, 0, 1, 1, 1, 1] [19781, 19656, 19182, 19186, 19681, 19706, 18537, 19032, 19036, 19531, 19556, 18408, 18907, 18932, 18416, 18911, 18936, 18287, 19406, 19531] = some [] := by decide +kernel
theorem q4t90 : cover 4 Q4b [1, 1, 1, 1, 0, 0, 0, 0] [20150, 20331, 19706, 20180, 19706, 20176, 20206, 19081, 19551, 19581, 19555, 19581, 18956, 20025, 20206, 19581, 20180, 19581, 20176, 20331, 18956, 19551, 19706, 19555, 19706, 19081, 20150] = some [] := by decide +kernel
theorem q4t91 : cover 4 Q4b [1, 1, 1, 1, 0, 0, 0, 1] [20431, 20306, 20336, 20332, 20181, 20212, 19581, 20056, 20211, 20207, 20181, 20306] = some [] := by decide +kernel
theorem q4t92 : cover 4 Q4b [1, 1, 1, 1, 0, 0, 1, 0] [19806, 19681, 19711, 19082, 19556, 18962, 18956, 19431, 19586, 18957, 19556, 19681] = some [] := by decide +kernel
theorem q4t93 : cover 4 Q4b [1, 1, 1, 1, 0, 0, 1, 1] [20280, 20436, 19811, 20155, 20316, 19691, 20160, 19711, 20186, 20191, 19086, 19561, 19566, 19555, 19586, 18961, 20030, 20186, 19561, 20155] = some [] := by decide +kernel
theorem q4t94 : cover 4 Q4b [1, 1, 1, 1, 0, 1, 0, 0] [19806, 19681, 19707, 19086, 19556, 18962, 18956, 19431, 19582, 18961, 19556, 19681] = some [] := by decide +kernel
theorem q4t95 : cover 4 Q4b [1, 1, 1, 1, 0, 1, 0, 1] [20276, 20432, 19807, 20151, 20308, 19683, 20152, 19707, 20182, 20183, 19082, 19557, 19558, 19551, 19582, 18957, 20026, 20182, 19557, 20151] = some [] := by decide +kernel
theorem q4t96 : cover 4 Q4b [1, 1, 1, 1, 0, 1, 1, 1] [20406, 20281, 20412, 19811, 20286, 20291, 19807, 20282, 20283, 19681, 20156, 20161, 20157, 20162, 19081, 19556, 19561, 19557, 20031, 20156] = some [] := by decide +kernel
theorem q4t97 : cover 4 Q4b [1, 1, 1, 1, 1, 0, 0, 0] [19181, 19056, 18457, 18461, 18931, 17712, 18331, 18806, 18332, 18336, 18931, 19056] = some [] := by decide +kernel
theorem q4t98 : cover 4 Q4b [1, 1, 1, 1, 1, 0, 1, 0] [19651, 19182, 18557, 19526, 18433, 17808, 18902, 18457, 18932, 18308, 17832, 18307, 17683, 18926, 18332, 17707, 19401, 18932, 18307, 19526] = some [] := by decide +kernel
theorem q4t99 : cover 4 Q4b [1, 1, 1, 1, 1, 0, 1, 1] [19781, 19656, 19162, 19186, 19661, 19666, 18557, 19032, 18408, 19056, 19531, 19536, 18907, 18912, 18456, 18931, 18936, 18307, 19406, 19531] = some [] := by decide +kernel
theorem q4t100 : cover 4 Q4b [1, 1, 1, 1, 1, 1, 0, 0] [19655, 19186, 18561, 19530, 18441, 17816, 18910, 18461, 18936, 18316, 17836, 18311, 17691, 18930, 18336, 17711, 19405, 18936, 18311, 19530] = some [] := by decide +kernel
theorem q4t101 : cover 4 Q4b [1, 1, 1, 1, 1, 1, 0, 1] [19781, 19656, 19162, 19182, 19657, 19658, 18561, 19036, 18416, 19056, 19531, 19532, 18911, 18912, 18456, 18931, 18932, 18311, 19406, 19531] = some [] := by decide +kernel
theorem q4t102 : cover 4 Q4b [1, 1, 1, 1, 1, 1, 1, 0] [19156, 19031, 17912, 17932, 18407, 17783, 17936, 18411, 17791, 18431, 18906, 18282, 18286, 17662, 17831, 18306, 17682, 17686, 18781, 18906] = some [] := by decide +kernel
theorem q4t103 : cover 4 Q4b [1, 1, 1, 1, 1, 1, 1, 1] [20125, 20406, 19781, 20280, 19781, 20276, 20431, 19156, 19651, 19806, 19655, 19806, 19181, 20150, 19781, 20256, 20411, 20407, 20281, 20306, 19156, 19631, 19786, 19157, 19656, 19681, 19655, 19786, 19161, 20130, 20286, 19661, 20155, 19156, 19631, 19782, 19161, 19656, 19681, 19651, 19782, 19157, 20126, 20282, 19657, 20151, 19181, 19656, 19661, 19657, 20131, 20156, 18531, 19006, 18532, 18536, 19031, 19056, 19026, 18532, 17907, 19501, 19032, 18407, 19526, 18556, 19031, 19036, 18407, 19506, 19531, 19030, 18536, 17911, 19505, 19036, 18411, 19530, 18556, 19031, 19032, 18411, 19506, 19531, 17931, 18406, 17782, 17786, 18881, 18906, 19525, 19056, 18431, 19530, 18431, 19526, 19531, 17806, 18901, 18906, 18905, 18906, 18281, 20000] = some [] := by decide +kernel
theorem all4 : ∀ p ∈ fr4, ∃ ws, cover 4 Q4b p ws = some [] := by
  intro p hp
  simp only [fr4, List.mem_cons, List.not_mem_nil, or_false] at hp
  rcases hp with rfl | rfl | rfl | rfl | rfl | rfl | rfl | rfl | rfl | rfl | rfl | rfl | rfl | rfl | rfl | rfl | rfl | rfl | rfl | rfl | rfl | rfl | rfl | rfl | rfl | rfl | rfl | rfl | rfl | rfl | rfl | rfl | rfl | rfl | rfl | rfl | rfl | rfl | rfl | rfl | rfl | rfl | rfl | rfl | rfl | rfl | rfl | rfl | rfl | rfl | rfl | rfl | rfl | rfl | rfl | rfl | rfl | rfl | rfl | rfl | rfl | rfl | rfl | rfl | rfl | rfl | rfl | rfl | rfl | rfl | rfl | rfl | rfl | rfl | rfl | rfl | rfl | rfl | rfl | rfl | rfl | rfl | rfl | rfl | rfl | rfl | rfl | rfl | rfl | rfl | rfl | rfl | rfl | rfl | rfl | rfl | rfl | rfl | rfl | rfl | rfl | rfl | rfl | rfl
  · exact ⟨_, q4t0⟩
  · exact ⟨_, q4t1⟩
  · exact ⟨_, q4t2⟩
  · exact ⟨_, q4t3⟩
  · exact ⟨_, q4t4⟩
  · exact ⟨_, q4t5⟩
  · exact ⟨_, q4t6⟩
  · exact ⟨_, q4t7⟩
  · exact ⟨_, q4t8⟩
  · exact ⟨_, q4t9⟩
  · exact ⟨_, q4t10⟩
  · exact ⟨_, q4t11⟩
  · exact ⟨_, q4t12⟩
  · exact ⟨_, q4t13⟩
  · exact ⟨_, q4t14⟩
  · exact ⟨_, q4t15⟩
  · exact ⟨_, q4t16⟩
  · exact ⟨_, q4t17⟩
  · exact ⟨_, q4t18⟩
  · exact ⟨_, q4t19⟩
  · exact ⟨_, q4t20⟩
  · exact ⟨_, q4t21⟩
  · exact ⟨_, q4t22⟩
  · exact ⟨_, q4t23⟩
  · exact ⟨_, q4t24⟩
  · exact ⟨_, q4t25⟩
  · exact ⟨_, q4t26⟩
  · exact ⟨_, q4t27⟩
  · exact ⟨_, q4t28⟩
  · exact ⟨_, q4t29⟩
  · exact ⟨_, q4t30⟩
  · exact ⟨_, q4t31⟩
  · exact ⟨_, q4t32⟩
  · exact ⟨_, q4t33⟩
  · exact ⟨_, q4t34⟩
  · exact ⟨_, q4t35⟩
  · exact ⟨_, q4t36⟩
  · exact ⟨_, q4t37⟩
  · exact ⟨_, q4t38⟩
  · exact ⟨_, q4t39⟩
  · exact ⟨_, q4t40⟩
  · exact ⟨_, q4t41⟩
  · exact ⟨_, q4t42⟩
  · exact ⟨_, q4t43⟩
  · exact ⟨_, q4t44⟩
  · exact ⟨_, q4t45⟩
  · exact ⟨_, q4t46⟩
  · exact ⟨_, q4t47⟩
  · exact ⟨_, q4t48⟩
  · exact ⟨_, q4t49⟩
  · exact ⟨_, q4t50⟩
  · exact ⟨_, q4t51⟩
  · exact ⟨_, q4t52⟩
  · exact ⟨_, q4t53⟩
  · exact ⟨_, q4t54⟩
  · exact ⟨_, q4t55⟩
  · exact ⟨_, q4t56⟩
  · exact ⟨_, q4t57⟩
  · exact ⟨_, q4t58⟩
  · exact ⟨_, q4t59⟩
  · exact ⟨_, q4t60⟩
  · exact ⟨_, q4t61⟩
  · exact ⟨_, q4t62⟩
  · exact ⟨_, q4t63⟩
  · exact ⟨_, q4t64⟩
  · exact ⟨_, q4t65⟩
  · exact ⟨_, q4t66⟩
  · exact ⟨_, q4t67⟩
  · exact ⟨_, q4t68⟩
  · exact ⟨_, q4t69⟩
  · exact ⟨_, q4t70⟩
  · exact ⟨_, q4t71⟩
  · exact ⟨_, q4t72⟩
  · exact ⟨_, q4t73⟩
  · exact ⟨_, q4t74⟩
  · exact ⟨_, q4t75⟩
  · exact ⟨_, q4t76⟩
  · exact ⟨_, q4t77⟩
  · exact ⟨_, q4t78⟩
  · exact ⟨_, q4t79⟩
  · exact ⟨_, q4t80⟩
  · exact ⟨_, q4t81⟩
  · exact ⟨_, q4t82⟩
  · exact ⟨_, q4t83⟩
  · exact ⟨_, q4t84⟩
  · exact ⟨_, q4t85⟩
  · exact ⟨_, q4t86⟩
  · exact ⟨_, q4t87⟩
  · exact ⟨_, q4t88⟩
  · exact ⟨_, q4t89⟩
  · exact ⟨_, q4t90⟩
  · exact ⟨_, q4t91⟩
  · exact ⟨_, q4t92⟩
  · exact ⟨_, q4t93⟩
  · exact ⟨_, q4t94⟩
  · exact ⟨_, q4t95⟩
  · exact ⟨_, q4t96⟩
  · exact ⟨_, q4t97⟩
  · exact ⟨_, q4t98⟩
  · exact ⟨_, q4t99⟩
  · exact ⟨_, q4t100⟩
  · exact ⟨_, q4t101⟩
  · exact ⟨_, q4t102⟩
  · exact ⟨_, q4t103⟩
theorem leaf4 {T w : List Int} {b : Int} (h : IsT 4 T) (hT : tabOf w b 4 = T) : ∃ c, leafB 4 T c = true := by
  have hm := front_ok h hT Q4a 0 (by decide) v4a
  rw [List.take_zero, fr4_eq] at hm
  obtain ⟨ws, hw⟩ := all4 _ hm
  exact cover_ok h hT Q4b 8 ws [] (by decide) v4b hw
end Lk27

set_option Elab.async false
set_option linter.all false
set_option maxRecDepth 1000000
set_option maxHeartbeats 2000000
/-! k27: the law holds. -/
namespace Lk27
open PySem EV
theorem leaf_of {m : Nat} {T : List Int} (h : IsT m T) (hr : Real m T) : ∃ c, leafB m T c = true := by
  obtain ⟨w, b, _, hT⟩ := hr
  have hm := h.m4
  match m, hm, h, hT with
  | 0, _, h, hT => exact cover_ok h hT Q0 0 W0 [] (by decide) v0 cov0
  | 1, _, h, hT => exact cover_ok h hT Q1 0 W1 [] (by decide) v1 cov1
  | 2, _, h, hT => exact cover_ok h hT Q2 0 W2 [] (by decide) v2 cov2
  | 3, _, h, hT => exact cover_ok h hT Q3 0 W3 [] (by decide) v3 cov3
  | 4, _, h, hT => exact leaf4 h hT
theorem hH (m : Nat) (T : List Int) (h : IsT m T) : ∃ d, cl 6 7 [tab T, .int 4] = .ok d ∧ (!isN d) = (small (learn m T 200 (ps0 m)).w (learn m T 200 (ps0 m)).b && decide (tabOf (learn m T 200 (ps0 m)).w (learn m T 200 (ps0 m)).b m = T)) := by
  obtain ⟨d, hd, h1, h2⟩ := least h
  refine ⟨d, hd, ?_⟩
  by_cases hr : Real m T
  · obtain ⟨c, hc⟩ := leaf_of h hr
    unfold leafB at hc
    rw [Bool.and_eq_true, Bool.and_eq_true, Bool.and_eq_true, decide_eq_true_eq] at hc
    obtain ⟨⟨⟨c1, c2⟩, c3⟩, c4⟩ := hc
    rw [h2 _ _ (by simpa using c1) c2 c3, c4]
    rfl
  · have e1 : isN d = true := by
      cases e : isN d with
      | true => rfl
      | false => exact absurd (h1 e) hr
    have e2 : decide (tabOf (learn m T 200 (ps0 m)).w (learn m T 200 (ps0 m)).b m = T) = false := decide_eq_false fun z => hr ⟨_, _, learn_len (by simp [ps0]), z⟩
    rw [e1, e2, Bool.and_false]
    rfl
theorem final : PySem.Challenge.rw_truthworks_k27_learning_weights.Holds := holds_of fun ns _ _ => law_ok hH ns
end Lk27

theorem PySem.Challenge.cw_truthworks_k27_learning_weights_holds : PySem.Challenge.rw_truthworks_k27_learning_weights.Holds := by
  exact Lk27.final
