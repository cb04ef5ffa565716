import PyProof.Rows.All
import Wide.All
import OpenK.AllK
import Wide.FinOn
import PyProof.EqAt
import PyProof.EqKinds
import PyProof.TupleCall
import PyProof.ToksMono
import HandS.ForMost
import HandS.ForExc
import HandS.Evl
import HandS.IsInst
import HandS.TupAny
import HandS.TupMul
import HandS.Style
import HandS.Zip
import HandS.Deep
import HandS.Spec
import HandS.Wide
import HandS.Sort
import HandS.ExcIs
import KE.GoesComp2
import KE.GoesCell
import KE.GoesZip
import KE.GoesEnum
import KE.GoesDict
import KE.GoesRaise
import KE.SortData
import KE.DataCmp
import KE.GoesMore
import HandS.Set
import HandS.SetFor
import PySem.Challenge.RW_lettercubes_k01_boxes
set_option Elab.async false
set_option linter.all false
set_option maxRecDepth 100000
namespace Ev
inductive D where
  | none | bool (b : Bool) | int (i : Int) | str (l : List Nat)
  | list (xs : List D) | tuple (xs : List D) | dict (kvs : List (D × D))
  | fn (f : Nat) | exc (c : Nat)
deriving Inhabited

inductive R (α : Type) where
  | ok (a : α) | err (c : Nat) | stuck
namespace R
@[inline] def bind {α β : Type} (x : R α) (f : α → R β) : R β :=
  match x with
  | .ok a => f a
  | .err c => .err c
  | .stuck => .stuck
/-- errors are not followed -/
def calm {α : Type} : R α → R α
  | .err _ => .stuck
  | r => r
def guard {α : Type} (b : Bool) (x : R α) : R α := match b with | true => x | false => .stuck
end R

inductive Bop where
  | add | sub | mul | mod | fdiv | pow | shl
inductive Cop where
  | eq | ne | lt | le | gt | ge | is | isnot | in_ | notin
inductive Ty where
  | int | bool | str | tuple | list
  | cls (c : Nat)
inductive Blt where
  | len | tuple | list | sum | all | any | sorted | lenSet | sortedSet | min1 | max1 | min2 | max2 | dict
inductive Mth where
  | join | split | count | index | get | items

mutual
inductive X where
  | var (i : Nat) | con (d : D)
  | bin (o : Bop) (a b : X) | neg (a : X) | not_ (a : X)
  | and_ (a b : X) | or_ (a b : X) | ite (c a b : X)
  | cmp (o : Cop) (a b : X) | chain (o o2 : Cop) (a b c : X)
  | list (es : List X) | tuple (es : List X) | dict (ks vs : List X)
  | repl (a o : X)
  | sub (a i : X) | slice (a : X) (lo hi : Option X) | rev (a : X)
  | call (f : Nat) (es : List X) | callv (g : X) (es : List X)
  | blt (b : Blt) (es : List X) | isi (a : X) (t : Ty) | meth (m : Mth) (a : X) (es : List X)
  | lc (elt : X) (g : Gn) | lc2 (elt : X) (g g2 : Gn) | dc2 (k v : X) (g g2 : Gn)
inductive It where
  | val (a : X) | rng (a : X) | rng2 (a b : X) | enum (a : X) | zip (a b : X)
inductive Gn where
  | mk (n : Nat) (it : It) (ifs : Option X)
end

/-- statements -/
inductive S where
  | asg (i : Nat) (e : X) | asgT (is : List Nat) (e : X)
  | append (i : Nat) (e : X) | extend (i : Nat) (e : X) | put (i : Nat) (k e : X) | pop (j i : Nat) | putAsg (i : Nat) (k e : X) (j : Nat) (e2 : X)
  | expr (e : X) | ret (e : X) | raise (c : Nat) | brk | pass
  | if_ (c : X) (a b : List S)
  | for_ (t : List Nat) (it : It) (b : List S)
  | while_ (c : X) (b : List S)
  | try_ (b : List S) (c i : Nat) (h : List S)

/-- plain data of at most so many levels -/
def shp : Nat → D → Bool
  | _, .none => true
  | _, .bool _ => true
  | _, .int _ => true
  | _, .str _ => true
  | n + 1, .list xs => xs.all (shp n)
  | n + 1, .tuple xs => xs.all (shp n)
  | _, _ => false
mutual
/-- == of plain data -/
def eqB : D → D → Bool
  | .none, .none => true
  | .bool a, .bool b => a == b
  | .bool a, .int b => (if a then 1 else 0) == b
  | .int a, .bool b => a == (if b then 1 else 0)
  | .int a, .int b => a == b
  | .str a, .str b => a == b
  | .list a, .list b => eqL a b
  | .tuple a, .tuple b => eqL a b
  | _, _ => false
def eqL : List D → List D → Bool
  | [], [] => true
  | a :: as, b :: bs => eqB a b && eqL as bs
  | _, _ => false
end
mutual
/-- the two can be ordered -/
def alk : D → D → Bool
  | .none, .none => true
  | .bool _, .bool _ => true
  | .int _, .int _ => true
  | .str _, .str _ => true
  | .list a, .list b => alkL a b
  | .tuple a, .tuple b => alkL a b
  | _, _ => false
def alkL : List D → List D → Bool
  | x :: xs, y :: ys => alk x y && alkL xs ys
  | _, _ => true
end
mutual
/-- < of alike data -/
def ltB : D → D → Bool
  | .bool a, .bool b => !a && b
  | .int a, .int b => decide (a < b)
  | .str a, .str b => decide (a < b)
  | .list a, .list b => ltL a b
  | .tuple a, .tuple b => ltL a b
  | _, _ => false
def ltL : List D → List D → Bool
  | x :: xs, y :: ys => if eqB x y then ltL xs ys else ltB x y
  | [], _ :: _ => true
  | _, [] => false
end
def isNone : D → Bool
  | .none => true
  | _ => false
def eqD (a b : D) : R Bool := R.guard (shp 60 a && shp 60 b) (.ok (eqB a b))
def canLt (a b : D) : Bool := alk a b && !isNone a && shp 60 a && shp 60 b
def truth : D → R Bool
  | .none => .ok false
  | .bool b => .ok b
  | .int i => .ok (i != 0)
  | .str l => .ok (!l.isEmpty)
  | .list l => .ok (!l.isEmpty)
  | .tuple l => .ok (!l.isEmpty)
  | .dict l => .ok (!l.isEmpty)
  | _ => .stuck
def fits (n : Nat) : Bool := Nat.ble n 16777216
def mkL (l : List D) : R D := R.guard (fits l.length) (.ok (.list l))
def mkT (l : List D) : R D := R.guard (fits l.length) (.ok (.tuple l))
def mkS (l : List Nat) : R D := R.guard (fits l.length) (.ok (.str l))
def small (i : Int) : Bool := decide (-(2 ^ 64) < i ∧ i < 2 ^ 64)
def binD : Bop → D → D → R D
  | .add, .int a, .int b => .ok (.int (a + b))
  | .add, .str a, .str b => mkS (a ++ b)
  | .add, .list a, .list b => mkL (a ++ b)
  | .add, .tuple a, .tuple b => mkT (a ++ b)
  | .sub, .int a, .int b => .ok (.int (a - b))
  | .mul, .int a, .int b => R.guard (small a || small b) (.ok (.int (a * b)))
  | .mul, .list a, .int b => R.guard (decide (0 ≤ b ∧ b ≤ 1000) && Nat.ble a.length 1000) (.ok (.list (List.replicate b.toNat a).flatten))
  | .mul, .list a, .bool b => R.guard (Nat.ble a.length 1000) (.ok (.list (match b with | true => a | false => [])))
  | .mul, .tuple a, .int b => R.guard (decide (2 ≤ b ∧ b ≤ 1000) && Nat.ble a.length 1000 && !a.isEmpty) (.ok (.tuple (List.replicate b.toNat a).flatten))
  | .mod, .int a, .int b => R.guard (decide (0 < b)) (.ok (.int (a % b)))
  | .fdiv, .int a, .int b => R.guard (decide (0 < b ∧ b < 2 ^ 64)) (.ok (.int (a / b)))
  | .pow, .int a, .int b => R.guard (decide (0 ≤ b ∧ b ≤ 1000 ∧ -(2 ^ 62) < a ∧ a < 2 ^ 62)) (.ok (.int (a ^ b.toNat)))
  | .shl, .int a, .int b => R.guard (decide (0 ≤ b ∧ b ≤ 1000 ∧ -(2 ^ 62) < a ∧ a < 2 ^ 62)) (.ok (.int (a * 2 ^ b.toNat)))
  | _, _, _ => .stuck
/-- a key of a dict -/
def findK (k : D) : List (D × D) → R (Option D)
  | [] => .ok none
  | (k', v) :: r => (eqD k' k).bind fun t => match t with | true => .ok (some v) | false => findK k r
def inD (x : D) : D → R Bool
  | .str b => match x with | .str [c] => .ok (b.contains c) | _ => .stuck
  | .list l => R.guard (shp 59 x && l.all (shp 59)) (.ok (l.any fun y => eqB y x))
  | .tuple l => R.guard (shp 59 x && l.all (shp 59)) (.ok (l.any fun y => eqB y x))
  | .dict kvs => (findK x kvs).bind fun o => .ok o.isSome
  | _ => .stuck
def isD : D → D → R Bool
  | .none, .none => .ok true
  | .bool a, .bool b => .ok (a == b)
  | _, .none => .ok false
  | .fn _, .bool _ => .stuck
  | .exc _, .bool _ => .stuck
  | _, .bool _ => .ok false
  | _, _ => .stuck
def cmpD : Cop → D → D → R Bool
  | .eq, a, b => eqD a b
  | .ne, a, b => (eqD a b).bind fun t => .ok (!t)
  | .lt, a, b => R.guard (canLt a b) (.ok (ltB a b))
  | .gt, a, b => R.guard (canLt a b) (.ok (ltB b a))
  | .le, a, b => R.guard (canLt a b) (.ok (!ltB b a))
  | .ge, a, b => R.guard (canLt a b) (.ok (!ltB a b))
  | .is, a, b => isD a b
  | .isnot, a, b => (isD a b).bind fun t => .ok (!t)
  | .in_, a, b => inD a b
  | .notin, a, b => (inD a b).bind fun t => .ok (!t)
/-- l[i] -/
def atI {α : Type} (l : List α) (i : Int) : Option α :=
  if 0 ≤ i then l[i.toNat]? else if 0 ≤ i + l.length then l[(i + l.length).toNat]? else none
def ofO {α : Type} : Option α → R α
  | some a => .ok a
  | none => .stuck
def subD : D → D → R D
  | .list l, .int i => ofO (atI l i)
  | .tuple l, .int i => ofO (atI l i)
  | .str l, .int i => (ofO (atI l i)).bind fun c => .ok (.str [c])
  | .dict kvs, k => (findK k kvs).bind fun o => ofO o
  | _, _ => .stuck
/-- a slice's bound, held within 0 .. n -/
def clip (n : Nat) (i : Int) : Nat := if 0 ≤ i then min i.toNat n else (i + n).toNat
def cut {α : Type} (l : List α) (lo hi : Option Int) : List α :=
  let a := match lo with | some i => clip l.length i | none => 0
  let b := match hi with | some i => clip l.length i | none => l.length
  (l.drop a).take (b - a)
def sliceD : D → Option Int → Option Int → R D
  | .list l, lo, hi => .ok (.list (cut l lo hi))
  | .tuple l, lo, hi => .ok (.tuple (cut l lo hi))
  | .str l, lo, hi => .ok (.str (cut l lo hi))
  | _, _, _ => .stuck
def revD : D → R D
  | .list l => .ok (.list l.reverse)
  | .tuple l => .ok (.tuple l.reverse)
  | .str l => .ok (.str l.reverse)
  | _ => .stuck
def asInt : D → R Int
  | .int i => .ok i
  | _ => .stuck
def smallIx (i : Int) : Bool := decide (-(2 ^ 62) < i ∧ i < 2 ^ 62)
/-- the items of what is walked -/
def items : D → R (List D)
  | .list l => .ok l
  | .tuple l => .ok l
  | .str l => .ok (l.map fun c => .str [c])
  | .dict kvs => .ok (kvs.map (·.1))
  | _ => .stuck
def seqItems : D → R (List D)
  | .list l => .ok l
  | .tuple l => .ok l
  | .str l => .ok (l.map fun c => .str [c])
  | _ => .stuck
def rngD (a b : Int) : List D := (List.range (b - a).toNat).map fun k => .int (a + (k : Nat))
def enumD (n : Nat) : List D → List D
  | [] => []
  | d :: ds => .tuple [.int (n : Nat), d] :: enumD (n + 1) ds
def zipD : List D → List D → List D
  | a :: as, b :: bs => .tuple [a, b] :: zipD as bs
  | _, _ => []
def allInt : List D → R (List Int)
  | [] => .ok []
  | .int i :: r => (allInt r).bind fun l => .ok (i :: l)
  | _ :: _ => .stuck
def allStr : List D → R (List (List Nat))
  | [] => .ok []
  | .str i :: r => (allStr r).bind fun l => .ok (i :: l)
  | _ :: _ => .stuck
def allBool : List D → R (List Bool)
  | [] => .ok []
  | .bool i :: r => (allBool r).bind fun l => .ok (i :: l)
  | _ :: _ => .stuck
/-- into an ascending list -/
def insS (x : List Nat) : List (List Nat) → List (List Nat)
  | [] => [x]
  | y :: r => if y < x then y :: insS x r else x :: y :: r
def sortS : List (List Nat) → List (List Nat)
  | [] => []
  | x :: r => insS x (sortS r)
def insI (x : Int) : List Int → List Int
  | [] => [x]
  | y :: r => if y < x then y :: insI x r else x :: y :: r
def sortI : List Int → List Int
  | [] => []
  | x :: r => insI x (sortI r)
/-- anything that is alike -/
def insD (x : D) : List D → List D
  | [] => [x]
  | y :: r => if ltB y x then y :: insD x r else x :: y :: r
def sortT : List D → List D
  | [] => []
  | x :: r => insD x (sortT r)
def isTup : D → Bool
  | .tuple (_ :: _) => true
  | _ => false
def allAlk : List D → Bool
  | [] => true
  | x :: r => r.all (fun y => alk x y && alk y x) && alk x x && allAlk r
/-- what is in it, once -/
def once {α : Type} [BEq α] : List α → List α
  | [] => []
  | x :: r => if r.contains x then once r else x :: once r
def sortD (l : List D) : R (List D) := match l with
  | [] => .ok []
  | .int i :: r => (allInt (.int i :: r)).bind fun l => .ok ((sortI l).map .int)
  | .str i :: r => (allStr (.str i :: r)).bind fun l => .ok ((sortS l).map .str)
  | l => R.guard (l.all isTup && allAlk l && l.all (shp 50)) (.ok (sortT l))
def lenSetD : List D → R Nat
  | [] => .ok 0
  | .int i :: r => (allInt (.int i :: r)).bind fun l => .ok (once l).length
  | .str i :: r => (allStr (.str i :: r)).bind fun l => .ok (once l).length
  | _ :: _ => .stuck
def sortSetD : List D → R (List D)
  | [] => .ok []
  | .int i :: r => (allInt (.int i :: r)).bind fun l => .ok ((sortI (once l)).map .int)
  | .str i :: r => (allStr (.str i :: r)).bind fun l => .ok ((sortS (once l)).map .str)
  | _ :: _ => .stuck
def minI : Int → List Int → Int
  | x, [] => x
  | x, y :: r => minI (if y < x then y else x) r
def maxI : Int → List Int → Int
  | x, [] => x
  | x, y :: r => maxI (if x < y then y else x) r
def bltD : Blt → List D → R D
  | .len, [.list l] => .ok (.int l.length)
  | .len, [.tuple l] => .ok (.int l.length)
  | .len, [.str l] => .ok (.int l.length)
  | .len, [.dict l] => .ok (.int l.length)
  | .tuple, [.list l] => .ok (.tuple l)
  | .tuple, [.tuple l] => .ok (.tuple l)
  | .list, [.list l] => .ok (.list l)
  | .list, [.tuple l] => .ok (.list l)
  | .sum, [.list l] => (allInt l).bind fun ns => .ok (.int ns.sum)
  | .all, [.list l] => (allBool l).bind fun ns => .ok (.bool (ns.all id))
  | .any, [.list l] => (allBool l).bind fun ns => .ok (.bool (ns.any id))
  | .sorted, [d] => (items d).bind fun l => R.guard (Nat.ble l.length 1000) ((sortD l).bind fun l' => .ok (.list l'))
  | .lenSet, [d] => (seqItems d).bind fun l => R.guard (Nat.ble l.length 1000) ((lenSetD l).bind fun n => .ok (.int n))
  | .sortedSet, [d] => (seqItems d).bind fun l => R.guard (Nat.ble l.length 1000) ((sortSetD l).bind fun l' => .ok (.list l'))
  | .min1, [.list l] => (allInt l).bind fun ns => match ns with | [] => .stuck | x :: r => .ok (.int (minI x r))
  | .max1, [.list l] => (allInt l).bind fun ns => match ns with | [] => .stuck | x :: r => .ok (.int (maxI x r))
  | .min2, [.int a, .int b] => .ok (.int (if b < a then b else a))
  | .max2, [.int a, .int b] => .ok (.int (if a < b then b else a))
  | .min2, [.str a, .str b] => .ok (.str (if b < a then b else a))
  | .max2, [.str a, .str b] => .ok (.str (if a < b then b else a))
  | _, _ => .stuck
def joinL (s : List Nat) : List (List Nat) → List Nat
  | [] => []
  | [x] => x
  | x :: r => x ++ s ++ joinL s r
def sumLen : List (List Nat) → Nat
  | [] => 0
  | x :: r => x.length + sumLen r
/-- split by one or more signs: k to be skipped, acc the part so far (backwards) -/
def spl (s : List Nat) : Nat → List Nat → List Nat → List (List Nat)
  | _, acc, [] => [acc.reverse]
  | k + 1, acc, _ :: r => spl s k acc r
  | 0, acc, c :: r => if s.isPrefixOf (c :: r) then acc.reverse :: spl s (s.length - 1) [] r else spl s 0 (c :: acc) r
def firstEq (x : D) : Nat → List D → R Nat
  | _, [] => .stuck
  | n, d :: ds => match eqB d x with | true => .ok n | false => firstEq x (n + 1) ds
def methD : Mth → D → List D → R D
  | .join, .str s, [d] => (match d with | .list l => allStr l | .tuple l => allStr l | _ => .stuck).bind fun xs => R.guard (fits (sumLen xs + xs.length * s.length)) (.ok (.str (joinL s xs)))
  | .split, .str s, [.str t] => R.guard (!t.isEmpty && t.all (fun c => Nat.blt c 128) && Nat.ble s.length 1000000) (.ok (.list ((spl t 0 [] s).map .str)))
  | .count, .list l, [x] => R.guard (shp 59 x && l.all (shp 59)) (.ok (.int (l.countP fun y => eqB y x)))
  | .count, .str l, [.str [c]] => .ok (.int (l.count c))
  | .index, .list l, [x] => R.guard (shp 59 x && l.all (shp 59)) ((firstEq x 0 l).bind fun n => .ok (.int n))
  | .get, .dict kvs, [k, d] => (findK k kvs).bind fun o => .ok (o.getD d)
  | _, _, _ => .stuck
/-- what has the method -/
def mOk : Mth → D → Bool
  | .join, .str _ => true
  | .split, .str _ => true
  | .count, .str _ => true
  | .count, .list _ => true
  | .index, .list _ => true
  | .get, .dict _ => true
  | .items, .dict _ => true
  | _, _ => false
/-- x.replace(sign, "") -/
def replD : D → D → R D
  | .str s, .str [c] => R.guard (c != 32 && Nat.ble s.length 1000000) (.ok (.str (s.filter fun x => x != c)))
  | _, _ => .stuck
def isStr : D → Bool
  | .str _ => true
  | _ => false
/-- an exception's class and its bases: given by the program -/
def isiD (sub : Nat → Nat → Bool) : D → Ty → R Bool
  | .int _, .int => .ok true
  | .bool _, .int => .ok true
  | .bool _, .bool => .ok true
  | .str _, .str => .ok true
  | .tuple _, .tuple => .ok true
  | .list _, .list => .ok true
  | .exc c, .cls c' => .ok (sub c c')
  | .exc _, _ => .stuck
  | .fn _, _ => .stuck
  | .dict _, _ => .stuck
  | _, .cls _ => .stuck
  | _, _ => .ok false

inductive Sl where
  | un | dat (d : D) | own (d : D)
def slotD : Sl → R D
  | .dat d => .ok d
  | _ => .stuck
def bindT : Nat → D → R (List Sl)
  | 1, d => .ok [.dat d]
  | n, .tuple ds => R.guard (n == ds.length) (.ok (ds.map .dat))
  | _, _ => .stuck
def filtR (f : D → R (Option D)) : List D → R (List D)
  | [] => .ok []
  | d :: ds => (f d).bind fun o => (filtR f ds).bind fun r => .ok (match o with | some x => x :: r | none => r)
def flatR (f : D → R (List D)) : List D → R (List D)
  | [] => .ok []
  | d :: ds => (f d).bind fun o => (flatR f ds).bind fun r => .ok (o ++ r)
/-- what a program is, for the evaluator: what its defs do at a lower level, and which exception classes lie below which -/
structure Fx where
  call : Nat → List D → R D
  sub : Nat → Nat → Bool
  nc : Nat
def putK (k v : D) : List (D × D) → R (List (D × D))
  | [] => .ok [(k, v)]
  | (k', v') :: r => (eqD k' k).bind fun t => match t with | true => .ok ((k', v) :: r) | false => (putK k v r).bind fun r' => .ok ((k', v') :: r')
def putAll (kvs : List (D × D)) : List D → List D → R (List (D × D))
  | [], [] => .ok kvs
  | k :: ks, v :: vs => (putK k v kvs).bind fun kvs' => putAll kvs' ks vs
  | _, _ => .stuck

mutual
def ev (F : Fx) (ρ : List Sl) : X → R D
  | .var i => match ρ[i]? with | some s => slotD s | none => .stuck
  | .con d => .ok d
  | .bin o a b => (ev F ρ a).bind fun x => (ev F ρ b).bind fun y => binD o x y
  | .neg a => (ev F ρ a).bind fun x => (asInt x).bind fun i => .ok (.int (-i))
  | .not_ a => (ev F ρ a).bind fun x => (truth x).bind fun t => .ok (.bool (!t))
  | .and_ a b => (ev F ρ a).bind fun x => (truth x).bind fun t => match t with | true => ev F ρ b | false => .ok x
  | .or_ a b => (ev F ρ a).bind fun x => (truth x).bind fun t => match t with | true => .ok x | false => ev F ρ b
  | .ite c a b => (ev F ρ c).bind fun x => (truth x).bind fun t => match t with | true => ev F ρ a | false => ev F ρ b
  | .cmp o a b => (ev F ρ a).bind fun x => (ev F ρ b).bind fun y => (cmpD o x y).bind fun t => .ok (.bool t)
  | .chain o o2 a b c => (ev F ρ a).bind fun x => (ev F ρ b).bind fun y => (cmpD o x y).bind fun t => match t with
      | true => (ev F ρ c).bind fun z => (cmpD o2 y z).bind fun t2 => .ok (.bool t2)
      | false => .ok (.bool false)
  | .list es => (evs F ρ es).bind fun l => .ok (.list l)
  | .tuple es => (evs F ρ es).bind fun l => .ok (.tuple l)
  | .dict ks vs => (evs F ρ ks).bind fun k => (evs F ρ vs).bind fun v => (putAll [] k v).bind fun kvs => .ok (.dict kvs)
  | .sub a i => (ev F ρ a).bind fun x => (ev F ρ i).bind fun y => subD x y
  | .slice a lo hi => (ev F ρ a).bind fun x => (evO F ρ lo).bind fun l => (evO F ρ hi).bind fun h => sliceD x l h
  | .rev a => (ev F ρ a).bind fun x => revD x
  | .call f es => (evs F ρ es).bind fun l => F.call f l
  | .callv g es => (ev F ρ g).bind fun x => match x with | .fn f => (evs F ρ es).bind fun l => F.call f l | _ => .stuck
  | .blt b es => (evs F ρ es).bind fun l => bltD b l
  | .repl a o => (ev F ρ a).bind fun x => R.guard (isStr x) ((ev F ρ o).bind fun y => replD x y)
  | .isi a t => (ev F ρ a).bind fun x => (isiD F.sub x t).bind fun k => .ok (.bool k)
  | .meth m a es => (ev F ρ a).bind fun x => R.guard (mOk m x) ((evs F ρ es).bind fun l => methD m x l)
  | .lc elt (.mk n it ifs) => (evIt F ρ it).bind fun ds => (filtR (fun d => (bindT n d).bind fun own => (evIf F (own ++ ρ) ifs).bind fun t => match t with
      | true => (ev F (own ++ ρ) elt).bind fun x => .ok (some x)
      | false => .ok none) ds).calm.bind fun l => .ok (.list l)
  | .lc2 elt (.mk n it ifs) (.mk n2 it2 ifs2) => (evIt F ρ it).bind fun ds => (flatR (fun d => (bindT n d).bind fun own =>
      (evIf F (own ++ (List.replicate n2 .un ++ ρ)) ifs).bind fun t => match t with
      | true => (evIt F (own ++ (List.replicate n2 .un ++ ρ)) it2).bind fun ds2 => filtR (fun d2 => (bindT n2 d2).bind fun own2 => (evIf F (own ++ (own2 ++ ρ)) ifs2).bind fun t2 => match t2 with
          | true => (ev F (own ++ (own2 ++ ρ)) elt).bind fun x => .ok (some x)
          | false => .ok none) ds2
      | false => .ok []) ds).calm.bind fun l => mkL l
  | .dc2 k v (.mk n it ifs) (.mk n2 it2 ifs2) => (evIt F ρ it).bind fun ds => (flatR (fun d => (bindT n d).bind fun own =>
      (evIf F (own ++ (List.replicate n2 .un ++ ρ)) ifs).bind fun t => match t with
      | true => (evIt F (own ++ (List.replicate n2 .un ++ ρ)) it2).bind fun ds2 => filtR (fun d2 => (bindT n2 d2).bind fun own2 => (evIf F (own ++ (own2 ++ ρ)) ifs2).bind fun t2 => match t2 with
          | true => (ev F (own ++ (own2 ++ ρ)) k).bind fun x => (ev F (own ++ (own2 ++ ρ)) v).bind fun y => .ok (some (.tuple [x, y]))
          | false => .ok none) ds2
      | false => .ok []) ds).calm.bind fun l => (putAll [] (l.map fun p => match p with | .tuple [x, _] => x | _ => .none) (l.map fun p => match p with | .tuple [_, y] => y | _ => .none)).bind fun kvs => .ok (.dict kvs)
def evs (F : Fx) (ρ : List Sl) : List X → R (List D)
  | [] => .ok []
  | e :: es => (ev F ρ e).bind fun x => (evs F ρ es).bind fun l => .ok (x :: l)
def evO (F : Fx) (ρ : List Sl) : Option X → R (Option Int)
  | none => .ok none
  | some e => (ev F ρ e).bind fun x => (asInt x).bind fun i => R.guard (smallIx i) (.ok (some i))
def evIf (F : Fx) (ρ : List Sl) : Option X → R Bool
  | none => .ok true
  | some e => (ev F ρ e).bind fun x => truth x
def evIt (F : Fx) (ρ : List Sl) : It → R (List D)
  | .val a => (ev F ρ a).bind fun x => items x
  | .rng a => (ev F ρ a).bind fun x => (asInt x).bind fun i => R.guard (decide (i ≤ 1000000) && smallIx i) (.ok (rngD 0 i))
  | .rng2 a b => (ev F ρ a).bind fun x => (ev F ρ b).bind fun y => (asInt x).bind fun i => (asInt y).bind fun j => R.guard (decide (j - i ≤ 1000000) && smallIx i && smallIx j) (.ok (rngD i j))
  | .enum a => (ev F ρ a).bind fun x => (seqItems x).bind fun l => .ok (enumD 0 l)
  | .zip a b => (ev F ρ a).bind fun x => (ev F ρ b).bind fun y => (seqItems x).bind fun l => (seqItems y).bind fun m => .ok (zipD l m)
end

inductive O where
  | next (ρ : List Sl) | ret (d : D) | brk (ρ : List Sl) | err (c : Nat) | stuck
/-- a value that is met behind an expression -/
def R.to {α : Type} (x : R α) (f : α → O) : O := match x with | .ok a => f a | .err c => .err c | .stuck => .stuck
def O.then (o : O) (f : List Sl → O) : O := match o with | .next ρ => f ρ | o => o
/-- what is made anew is the frame's own -/
def fresh : X → Bool
  | .list _ => true
  | .dict _ _ => true
  | _ => false
def scalar : D → Bool
  | .none => true
  | .bool _ => true
  | .int _ => true
  | .str _ => true
  | _ => false
mutual
/-- is the slot i named in it? -/
def X.has (i : Nat) : X → Bool
  | .var j => i == j
  | .con _ => false
  | .bin _ a b => a.has i || b.has i
  | .neg a => a.has i
  | .not_ a => a.has i
  | .and_ a b => a.has i || b.has i
  | .or_ a b => a.has i || b.has i
  | .ite c a b => c.has i || (a.has i || b.has i)
  | .cmp _ a b => a.has i || b.has i
  | .chain _ _ a b c => a.has i || (b.has i || c.has i)
  | .list es => hass i es
  | .tuple es => hass i es
  | .dict ks vs => hass i ks || hass i vs
  | .sub a b => a.has i || b.has i
  | .slice a lo hi => a.has i || (hasO i lo || hasO i hi)
  | .rev a => a.has i
  | .call _ es => hass i es
  | .callv g es => g.has i || hass i es
  | .blt _ es => hass i es
  | .isi a _ => a.has i
  | .repl a b => a.has i || b.has i
  | .meth _ a es => a.has i || hass i es
  | .lc elt (.mk n it ifs) => it.has i || (hasO (i + n) ifs || elt.has (i + n))
  | .lc2 elt (.mk n it ifs) (.mk n2 it2 ifs2) => it.has i || (hasO (i + n + n2) ifs || (it2.has (i + n + n2) || (hasO (i + n + n2) ifs2 || elt.has (i + n + n2))))
  | .dc2 k v (.mk n it ifs) (.mk n2 it2 ifs2) => it.has i || (hasO (i + n + n2) ifs || (it2.has (i + n + n2) || (hasO (i + n + n2) ifs2 || (k.has (i + n + n2) || v.has (i + n + n2)))))
def hass (i : Nat) : List X → Bool
  | [] => false
  | e :: es => e.has i || hass i es
def hasO (i : Nat) : Option X → Bool
  | none => false
  | some e => e.has i
def It.has (i : Nat) : It → Bool
  | .val a => a.has i
  | .rng a => a.has i
  | .rng2 a b => a.has i || b.has i
  | .enum a => a.has i
  | .zip a b => a.has i || b.has i
end
/-- own things that are named become plain data -/
def thaw (h : Nat → Bool) : Nat → List Sl → List Sl
  | _, [] => []
  | i, .own d :: r => (match h i with | true => .dat d | false => .own d) :: thaw h (i + 1) r
  | i, s :: r => s :: thaw h (i + 1) r
def setAll (ρ : List Sl) : List Nat → List D → Option (List Sl)
  | [], [] => some ρ
  | i :: is, d :: ds => setAll (ρ.set i (.dat d)) is ds
  | _, _ => none
def unpack : List Nat → D → List Sl → O
  | [i], d, ρ => .next (ρ.set i (.dat d))
  | is, .tuple ds, ρ => match setAll ρ is ds with | some ρ' => .next ρ' | none => .stuck
  | _, _, _ => .stuck
def forO (t : List Nat) (b : List Sl → O) : List D → List Sl → O
  | [], ρ => .next ρ
  | d :: ds, ρ => match (unpack t d ρ).then b with
      | .next ρ' => forO t b ds ρ'
      | .brk ρ' => .next ρ'
      | o => o
def whileO (c : List Sl → R Bool) (b : List Sl → O) : Nat → List Sl → O
  | 0, _ => .stuck
  | n + 1, ρ => (c ρ).to fun t => match t with
      | true => match b ρ with
          | .next ρ' => whileO c b n ρ'
          | .brk ρ' => .next ρ'
          | o => o
      | false => .next ρ
def turns : Nat := 2000
/-- behind an expression: own things that it named stay the frame's own where its value holds none of them -/
def after (h : Nat → Bool) (ρ : List Sl) (d : D) : List Sl := match scalar d with | true => ρ | false => thaw h 0 ρ
mutual
def exec (F : Fx) : S → List Sl → O
  | .asg i e, ρ => (ev F (thaw e.has 0 ρ) e).to fun d => .next ((after e.has ρ d).set i (match fresh e with | true => .own d | false => .dat d))
  | .asgT is e, ρ => (ev F (thaw e.has 0 ρ) e).to fun d => unpack is d (after e.has ρ d)
  | .append i e, ρ => match ρ[i]? with
      | some (.own _) => (ev F (thaw e.has 0 ρ) e).to fun d => match (after e.has ρ d)[i]? with
          | some (.own (.list l)) => match fits (l.length + 1) with | true => .next ((after e.has ρ d).set i (.own (.list (l ++ [d])))) | false => .stuck
          | _ => .stuck
      | _ => .stuck
  | .extend i e, ρ => match ρ[i]? with
      | some (.own _) => (ev F (thaw e.has 0 ρ) e).to fun d => match (after e.has ρ d)[i]?, d with
          | some (.own (.list l)), .list m => match fits (l.length + m.length) with | true => .next ((after e.has ρ d).set i (.own (.list (l ++ m)))) | false => .stuck
          | _, _ => .stuck
      | _ => .stuck
  | .put i k e, ρ => (ev F (thaw e.has 0 ρ) e).to fun d => (ev F (thaw k.has 0 (after e.has ρ d)) k).to fun kd =>
      match (after k.has (after e.has ρ d) kd)[i]? with
      | some (.own (.dict kvs)) => (putK kd d kvs).to fun kvs' => match fits kvs'.length with | true => .next ((after k.has (after e.has ρ d) kd).set i (.own (.dict kvs'))) | false => .stuck
      | some (.own (.list l)) => match kd with
          | .int j => match decide (0 ≤ j) && decide (j < l.length) with | true => .next ((after k.has (after e.has ρ d) kd).set i (.own (.list (l.set j.toNat d)))) | false => .stuck
          | _ => .stuck
      | _ => .stuck
  | .pop j i, ρ => match ρ[i]? with
      | some (.own (.list l)) => match l.getLast? with
          | some d => .next ((ρ.set i (.own (.list l.dropLast))).set j (.dat d))
          | none => .stuck
      | _ => .stuck
  | .putAsg _ _ _ _ _, _ => .stuck
  | .expr e, ρ => (ev F (thaw e.has 0 ρ) e).to fun _ => .next ρ
  | .ret e, ρ => (ev F (thaw e.has 0 ρ) e).to fun d => .ret d
  | .raise c, _ => .err c
  | .brk, ρ => .brk ρ
  | .pass, ρ => .next ρ
  | .if_ c a b, ρ => ((ev F (thaw c.has 0 ρ) c).bind truth).to fun t => match t with | true => execs F a ρ | false => execs F b ρ
  | .for_ t it b, ρ => (evIt F (thaw it.has 0 ρ) it).to fun ds => forO t (execs F b) ds (thaw it.has 0 ρ)
  | .while_ c b, ρ => whileO (fun ρ => (ev F (thaw c.has 0 ρ) c).bind truth) (execs F b) turns ρ
  | .try_ b c i h, ρ => match execs F b ρ with
      | .err c' => match Nat.blt c' F.nc with
          | true => match F.sub c' c with
              | true => match execs F h ((List.replicate ρ.length .un).set i (.dat (.exc c'))) with
                  | .ret d => .ret d
                  | _ => .stuck
              | false => .err c'
          | false => .stuck
      | o => o
def execs (F : Fx) : List S → List Sl → O
  | [], ρ => .next ρ
  | s :: r, ρ => (exec F s ρ).then fun ρ' => execs F r ρ'
end
/-- a def: its parameters, its other slots, its body -/
structure Df where
  pars : Nat
  slots : Nat
  body : List S
def O.res : O → R D
  | .next _ => .ok .none
  | .ret d => .ok d
  | .err c => .err c
  | _ => .stuck
def runDf (F : Fx) (f : Df) (ds : List D) : R D := match ds.length == f.pars with
  | true => (execs F f.body (ds.map .dat ++ List.replicate f.slots .un)).res
  | false => .stuck
/-- a program: its defs by number -/
structure Pg where
  defs : List Df
  sub : Nat → Nat → Bool
  nc : Nat
def fx (p : Pg) : Nat → Fx
  | 0 => ⟨fun _ _ => .stuck, p.sub, p.nc⟩
  | k + 1 => ⟨fun f ds => match p.defs[f]? with | some d => runDf (fx p k) d ds | none => .stuck, p.sub, p.nc⟩
end Ev
namespace Ev
open PySem PySem.Spec PyProof.Rows L2

/-- where the program's defs and classes lie -/
structure Bk where
  fa : Nat → Addr
  ca : Nat → Addr
  nc : Nat
/-- a text of one sign (not the blank) has a token that was given out -/
def Gd (n : Nat) (l : List Nat) (t : Tok) : Prop := ∀ c, l = [c] → c ≠ 32 → t ≠ 0 ∧ t < n
theorem Gd.mono {n n' : Nat} {l : List Nat} {t : Tok} (h : Gd n l t) (q : n ≤ n') : Gd n' l t := fun c e e' => ⟨(h c e e').1, Nat.lt_of_lt_of_le (h c e e').2 q⟩
theorem Gd.of {n : Nat} {l : List Nat} {t : Tok} (h0 : 1 ≤ t) (h : t < n) : Gd n l t := fun _ _ _ => ⟨Nat.ne_of_gt h0, h⟩
/-- code points -/
def okc (l : List Nat) : Bool := l.all fun c => decide (c < 0x110000)
abbrev tS (l : List Nat) : Str := ⟨l.toArray⟩
theorem tS_len (l : List Nat) : (tS l).length = l.length := by simp [Str.length]
theorem okc_app {a b : List Nat} (ha : okc a = true) (hb : okc b = true) : okc (a ++ b) = true := by
  unfold okc at *
  rw [List.all_append, ha, hb]
  rfl
theorem okc_iff {l : List Nat} : okc l = true ↔ ∀ c ∈ l, c < 0x110000 := by simp [okc]
theorem okc_sub {a b : List Nat} (hb : okc b = true) (h : ∀ c ∈ a, c ∈ b) : okc a = true := okc_iff.mpr fun c hc => okc_iff.mp hb c (h c hc)
theorem tS_toList (x : Str) : tS x.cps.toList = x := by simp [tS]

mutual
inductive DV (B : Bk) (O : Addr → Prop) (h : Heap) (n : Nat) : Value → D → Prop
  | none : DV B O h n .none .none
  | bool (b : Bool) : DV B O h n (.bool b) (.bool b)
  | int (i : Int) (t : Tok) : DV B O h n (.int i t) (.int i)
  | str (l : List Nat) (t : Tok) : Gd n l t → l.length ≤ sizeLine ∧ okc l = true → DV B O h n (.str (tS l) t) (.str l)
  | list {a : Addr} {its : List Value} {ep : Nat} {ds : List D} : ¬ O a → h.get? a = some { cls := .type "list", data := .seq its.toArray ep } → its.length ≤ sizeLine → DVs B O h n its ds → DV B O h n (.ref a) (.list ds)
  | tuple {a : Addr} {its : List Value} {ep : Nat} {ds : List D} : ¬ O a → h.get? a = some { cls := .type "tuple", data := .seq its.toArray ep } → its.length ≤ sizeLine → DVs B O h n its ds → DV B O h n (.ref a) (.tuple ds)
  | fn (f : Nat) : DV B O h n (.ref (B.fa f)) (.fn f)
  | exc {a : Addr} {o : Obj} {c : Nat} : ¬ O a → h.get? a = some o → (o.cls = .ref (B.ca c) ∧ o.dict = none ∧ (∃ vs, o.data = .fields vs) ∧ c < B.nc) → DV B O h n (.ref a) (.exc c)
inductive DVs (B : Bk) (O : Addr → Prop) (h : Heap) (n : Nat) : List Value → List D → Prop
  | nil : DVs B O h n [] []
  | cons {v : Value} {vs : List Value} {d : D} {ds : List D} : DV B O h n v d → DVs B O h n vs ds → DVs B O h n (v :: vs) (d :: ds)
end
section
variable {B : Bk} {O O' : Addr → Prop} {h h' : Heap} {n n' : Nat}
mutual
theorem DV.mono (k : ∀ b o, ¬ O b → h.get? b = some o → h'.get? b = some o) (q : n ≤ n') (w : ∀ b, O' b → O b) : ∀ {v : Value} {d : D}, DV B O h n v d → DV B O' h' n' v d
  | _, _, .none => .none
  | _, _, .bool b => .bool b
  | _, _, .int i t => .int i t
  | _, _, .str l t g z => .str l t (g.mono q) z
  | _, _, .list no e z r => .list (fun x => no (w _ x)) (k _ _ no e) z (DVs.mono k q w r)
  | _, _, .tuple no e z r => .tuple (fun x => no (w _ x)) (k _ _ no e) z (DVs.mono k q w r)
  | _, _, .fn f => .fn f
  | _, _, .exc no e c => .exc (fun x => no (w _ x)) (k _ _ no e) c
theorem DVs.mono (k : ∀ b o, ¬ O b → h.get? b = some o → h'.get? b = some o) (q : n ≤ n') (w : ∀ b, O' b → O b) : ∀ {vs : List Value} {ds : List D}, DVs B O h n vs ds → DVs B O' h' n' vs ds
  | _, _, .nil => .nil
  | _, _, .cons a r => .cons (DV.mono k q w a) (DVs.mono k q w r)
end
theorem DVs.length : ∀ {vs : List Value} {ds : List D}, DVs B O h n vs ds → vs.length = ds.length
  | _, _, .nil => rfl
  | _, _, .cons _ a => by simp [DVs.length a]
theorem DVs.append : ∀ {vs ws : List Value} {ds es : List D}, DVs B O h n vs ds → DVs B O h n ws es → DVs B O h n (vs ++ ws) (ds ++ es)
  | _, _, _, _, .nil, b => b
  | _, _, _, _, .cons h a, b => .cons h (DVs.append a b)
theorem DVs.get : ∀ {vs : List Value} {ds : List D} {i : Nat} {d : D}, DVs B O h n vs ds → ds[i]? = some d → ∃ v, vs[i]? = some v ∧ DV B O h n v d
  | _, _, _, _, .nil, e => by simp at e
  | _, _, 0, _, .cons h _, e => by
    simp at e
    subst e
    exact ⟨_, rfl, h⟩
  | _, _, i + 1, d, .cons _ a, e => by
    obtain ⟨v, h1, h2⟩ := DVs.get (i := i) (d := d) a (by simpa using e)
    exact ⟨v, by simpa using h1, h2⟩
theorem DVs.getV : ∀ {vs : List Value} {ds : List D} {i : Nat} {v : Value}, DVs B O h n vs ds → vs[i]? = some v → ∃ d, ds[i]? = some d ∧ DV B O h n v d
  | _, _, _, _, .nil, e => by simp at e
  | _, _, 0, _, .cons h _, e => by
    simp at e
    subst e
    exact ⟨_, rfl, h⟩
  | _, _, i + 1, d, .cons _ a, e => by
    obtain ⟨v, h1, h2⟩ := DVs.getV (i := i) (v := d) a (by simpa using e)
    exact ⟨v, by simpa using h1, h2⟩
theorem DVs.take : ∀ {vs : List Value} {ds : List D} (m : Nat), DVs B O h n vs ds → DVs B O h n (vs.take m) (ds.take m)
  | _, _, 0, _ => .nil
  | _, _, _ + 1, .nil => .nil
  | _, _, m + 1, .cons h a => .cons h (DVs.take m a)
theorem DVs.drop : ∀ {vs : List Value} {ds : List D} (m : Nat), DVs B O h n vs ds → DVs B O h n (vs.drop m) (ds.drop m)
  | _, _, 0, h => h
  | _, _, _ + 1, .nil => .nil
  | _, _, m + 1, .cons _ a => DVs.drop m a
theorem DVs.rev {vs : List Value} {ds : List D} (x : DVs B O h n vs ds) : DVs B O h n vs.reverse ds.reverse := by
  induction vs generalizing ds with
  | nil =>
    cases x
    exact .nil
  | cons v vs ih =>
    cases x with
    | cons a r =>
      rw [List.reverse_cons, List.reverse_cons]
      exact (ih r).append (.cons a .nil)
theorem DVs.rep {vs : List Value} {ds : List D} (x : DVs B O h n vs ds) : ∀ m : Nat, DVs B O h n (List.replicate m vs).flatten (List.replicate m ds).flatten
  | 0 => .nil
  | m + 1 => by
    rw [List.replicate_succ, List.replicate_succ, List.flatten_cons, List.flatten_cons]
    exact x.append (DVs.rep x m)
theorem DVs.set {v : Value} {d : D} (q : DV B O h n v d) : ∀ {vs : List Value} {ds : List D} (m : Nat), DVs B O h n vs ds → DVs B O h n (vs.set m v) (ds.set m d)
  | _, _, _, .nil => .nil
  | _, _, 0, .cons _ a => .cons q a
  | _, _, m + 1, .cons h a => .cons h (DVs.set q m a)
theorem DV.scalar {v : Value} {d : D} (x : DV B O h n v d) (s : Ev.scalar d = true) : DV B O' h' n v d := by
  cases x with
  | none => exact .none
  | bool b => exact .bool b
  | int i t => exact .int i t
  | str l t g z => exact .str l t g z
  | list _ _ _ _ => cases s
  | tuple _ _ _ _ => cases s
  | fn _ => cases s
  | exc _ _ _ => cases s
end

/-- what an expression leaves -/
def Le (X : Cx) (s s' : Shared) : Prop := (∀ b o, s.heap.get? b = some o → (b ∉ X.env.locals :: X.fs → s'.heap.get? b = some o) ∧ ∃ sl, s'.heap.get? b = some { o with slots := sl }) ∧ s.toks ≤ s'.toks
theorem Le.refl {X : Cx} {s : Shared} : Le X s s := ⟨fun b o e => ⟨fun _ => e, o.slots, e⟩, Nat.le_refl _⟩
theorem Le.trans {X : Cx} {s s1 s2 : Shared} (a : Le X s s1) (b : Le X s1 s2) : Le X s s2 := ⟨fun c o e => by
  refine ⟨fun hc => (b.1 c o ((a.1 c o e).1 hc)).1 hc, ?_⟩
  obtain ⟨sl, q⟩ := (a.1 c o e).2
  obtain ⟨sl', q'⟩ := (b.1 c _ q).2
  exact ⟨sl', q'⟩, Nat.le_trans a.2 b.2⟩
theorem Le.kept {X : Cx} {s : Shared} {h' : Heap} {t' : Nat} {g' : Array GenState} {d' : Drawn} {o' : OsState} (k : ∀ b o, s.heap.get? b = some o → h'.get? b = some o) (q : s.toks ≤ t') : Le X s ⟨h', g', d', t', o'⟩ := ⟨fun b o e => ⟨fun _ => k b o e, o.slots, k b o e⟩, q⟩
/-- the place of a name among the slots -/
def ix (x : Str) : List Str → Nat
  | [] => 0
  | y :: r => if y = x then 0 else ix x r + 1
/-- the slots that are plain data -/
def EnvD (B : Bk) (env : Env) (O : Addr → Prop) (s : Shared) (m : Str → Option Value) (N : List Str) (ρ : List Sl) : Prop :=
  ∀ (x : Str) (d : D), x ∈ N → ρ[ix x N]? = some (.dat d) → Vis env.scope x → ∃ u, Look env s.heap m x u ∧ DV B O s.heap s.toks u d
/-- a state in which an expression is evaluated -/
structure Ste (B : Bk) (X : Cx) (pins : List (Addr × Obj)) (O : Addr → Prop) (N : List Str) (ρ : List Sl) (s : Shared) : Prop where
  inv : Inv X pins [] X.H_0 s
  tk : 1 ≤ s.toks
  fr : ∀ b ∈ X.env.locals :: X.fs, O b
  dom : ∀ b, O b → ∃ o, s.heap.get? b = some o
  env : ∃ m, s.heap.Ns X.env.locals m ∧ EnvD B X.env O s m N ρ
theorem Le.ns {X : Cx} {s s' : Shared} {a : Addr} {m : Str → Option Value} (l : Le X s s') (h : s.heap.Ns a m) : s'.heap.Ns a m := by
  obtain ⟨o, es, ep, ho, r⟩ := h
  obtain ⟨sl, q⟩ := (l.1 _ _ ho).2
  exact ⟨_, es, ep, q, r⟩
theorem Le.cell {X : Cx} {s s' : Shared} {c : Addr} {v : Option Value} (l : Le X s s') (h : s.heap.IsCell c v) : s'.heap.IsCell c v := by
  obtain ⟨o, ho, r⟩ := h
  obtain ⟨sl, q⟩ := (l.1 _ _ ho).2
  exact ⟨_, q, r⟩
theorem Le.look {X : Cx} {s s' : Shared} {env : Env} {m : Str → Option Value} {x : Str} {u : Value} (l : Le X s s') (h : Look env s.heap m x u) : Look env s'.heap m x u := by
  rcases h with h | ⟨k, c, e, z⟩
  · exact .inl h
  · exact .inr ⟨k, c, e, l.cell z⟩
section
variable {B : Bk} {X : Cx} {pins : List (Addr × Obj)} {O : Addr → Prop} {N : List Str} {ρ : List Sl} {s s' : Shared}
theorem Le.dat (l : Le X s s') (fr : ∀ b ∈ X.env.locals :: X.fs, O b) {u : Value} {d : D} (h : DV B O s.heap s.toks u d) : DV B O s'.heap s'.toks u d :=
  h.mono (fun b o no e => (l.1 b o e).1 fun z => no (fr b z)) l.2 fun _ z => z
theorem Le.dats (l : Le X s s') (fr : ∀ b ∈ X.env.locals :: X.fs, O b) {u : List Value} {d : List D} (h : DVs B O s.heap s.toks u d) : DVs B O s'.heap s'.toks u d :=
  h.mono (fun b o no e => (l.1 b o e).1 fun z => no (fr b z)) l.2 fun _ z => z
theorem Ste.step (S : Ste B X pins O N ρ s) (I : Inv X pins [] X.H_0 s') (l : Le X s s') : Ste B X pins O N ρ s' := by
  refine ⟨I, Nat.le_trans S.tk l.2, S.fr, fun b hb => ?_, ?_⟩
  · obtain ⟨o, e⟩ := S.dom b hb
    obtain ⟨sl, q⟩ := (l.1 b o e).2
    exact ⟨_, q⟩
  obtain ⟨m, hn, he⟩ := S.env
  refine ⟨m, l.ns hn, fun x d n e v => ?_⟩
  obtain ⟨u, hu, hd⟩ := he x d n e v
  exact ⟨u, l.look hu, l.dat S.fr hd⟩
end

/-- an exception of the class c may leave -/
def Xc (B : Bk) (X : Cx) (c : Nat) : Prop := Takes X (fun cls d _ H => cls = .ref (B.ca c) ∧ d = none ∧ H = X.H_0)
def Gw (B : Bk) (X : Cx) {α β : Type} (W : (β → Shared → Prop) → Prop) (r : R α) (Q : α → β → Shared → Prop) : Prop :=
  match r with
  | .ok a => W (Q a)
  | .err c => Xc B X c → W (fun _ _ => False)
  | .stuck => True
section
variable {B : Bk} {X : Cx}
abbrev Wm (X : Cx) {β : Type} (t : Sem β) (s : Shared) : (β → Shared → Prop) → Prop := fun Q => wpAny (model X.prog X.w) X.A t Q X.xe s
abbrev Mono {β : Type} (W : (β → Shared → Prop) → Prop) : Prop := ∀ Q Q' : β → Shared → Prop, (∀ v s, Q v s → Q' v s) → W Q → W Q'
theorem wm_mono {β : Type} {t : Sem β} {s : Shared} : Mono (Wm X t s) := fun _ _ h w => thn w h
theorem Gw.bind {α β γ δ : Type} {W1 : (β → Shared → Prop) → Prop} {W2 : (γ → Shared → Prop) → Prop} {K : β → Shared → (γ → Shared → Prop) → Prop} {r : R α} {f : α → R δ} {Q1 : α → β → Shared → Prop} {Q2 : δ → γ → Shared → Prop}
    (mono : Mono W1) (rule : ∀ Q, W1 (fun v s1 => K v s1 Q) → W2 Q) (h : Gw B X W1 r Q1) (k : ∀ a v s1, r = .ok a → Q1 a v s1 → Gw B X (K v s1) (f a) Q2) : Gw B X W2 (r.bind f) Q2 := by
  cases r with
  | ok a =>
    show Gw B X W2 (f a) Q2
    have k' := fun v s1 => k a v s1 rfl
    cases e : f a with
    | ok b =>
      rw [e] at k'
      exact rule _ (mono _ _ (fun v s1 q => k' v s1 q) h)
    | err c =>
      rw [e] at k'
      exact fun hx => rule _ (mono _ _ (fun v s1 q => k' v s1 q hx) h)
    | stuck => trivial
  | err c => exact fun hx => rule _ (mono _ _ (fun v s1 q => False.elim q) (h hx))
  | stuck => trivial
theorem Gw.mono {α β : Type} {W : (β → Shared → Prop) → Prop} {r : R α} {Q Q' : α → β → Shared → Prop} (m : Mono W) (h : Gw B X W r Q) (k : ∀ a v s, Q a v s → Q' a v s) : Gw B X W r Q' := by
  cases r with
  | ok a => exact m _ _ (k a) h
  | err c => exact h
  | stuck => trivial
/-- by another way -/
theorem Gw.rule {α β : Type} {W W' : (β → Shared → Prop) → Prop} {r : R α} {Q : α → β → Shared → Prop} (rule : ∀ Q, W Q → W' Q) (h : Gw B X W r Q) : Gw B X W' r Q := by
  cases r with
  | ok a => exact rule _ h
  | err c => exact fun hx => rule _ (h hx)
  | stuck => trivial
/-- what does not raise, told by cases -/
theorem Gw.guard {α β : Type} {W : (β → Shared → Prop) → Prop} {b : Bool} {r : R α} {Q : α → β → Shared → Prop} (h : b = true → Gw B X W r Q) : Gw B X W (R.guard b r) Q := by
  cases b with
  | true => exact h rfl
  | false => trivial
theorem Gw.pure {α β δ : Type} {W : (β → Shared → Prop) → Prop} {r : R α} {f : α → R δ} {Q : δ → β → Shared → Prop} (h : ∀ a, r = .ok a → Gw B X W (f a) Q) (hr : ∀ c, r ≠ .err c) : Gw B X W (r.bind f) Q := by
  cases r with
  | ok a => exact h a rfl
  | err c => exact absurd rfl (hr c)
  | stuck => trivial
end
/-- a value behind an expression -/
def Pst (B : Bk) (X : Cx) (pins : List (Addr × Obj)) (O : Addr → Prop) (s : Shared) (d : D) (u : Value) (s' : Shared) : Prop := Inv X pins [] X.H_0 s' ∧ Le X s s' ∧ DV B O s'.heap s'.toks u d
def Psts (B : Bk) (X : Cx) (pins : List (Addr × Obj)) (O : Addr → Prop) (s : Shared) (d : List D) (u : List Value) (s' : Shared) : Prop := Inv X pins [] X.H_0 s' ∧ Le X s s' ∧ DVs B O s'.heap s'.toks u d
def Pt (X : Cx) (pins : List (Addr × Obj)) (s : Shared) (b b' : Bool) (s' : Shared) : Prop := Inv X pins [] X.H_0 s' ∧ Le X s s' ∧ b' = b
theorem Pst.later {B : Bk} {X : Cx} {pins : List (Addr × Obj)} {O : Addr → Prop} {s s1 s' : Shared} {d : D} {u : Value} (l : Le X s s1) (p : Pst B X pins O s1 d u s') : Pst B X pins O s d u s' := ⟨p.1, l.trans p.2.1, p.2.2⟩
theorem Psts.later {B : Bk} {X : Cx} {pins : List (Addr × Obj)} {O : Addr → Prop} {s s1 s' : Shared} {d : List D} {u : List Value} (l : Le X s s1) (p : Psts B X pins O s1 d u s') : Psts B X pins O s d u s' := ⟨p.1, l.trans p.2.1, p.2.2⟩
theorem Pt.later {X : Cx} {pins : List (Addr × Obj)} {s s1 s' : Shared} {d u : Bool} (l : Le X s s1) (p : Pt X pins s1 d u s') : Pt X pins s d u s' := ⟨p.1, l.trans p.2.1, p.2.2⟩
/-- e is worth what x is -/
def SE (B : Bk) (X : Cx) (N : List Str) (F : Fx) (e : Expr) (x : Ev.X) : Prop :=
  ∀ (pins : List (Addr × Obj)) (O : Addr → Prop) (ρ : List Sl) (s : Shared), Ste B X pins O N ρ s → Gw B X (Wm X (eval e X.env) s) (ev F ρ x) (Pst B X pins O s)
def ST (B : Bk) (X : Cx) (N : List Str) (F : Fx) (e : Expr) (x : Ev.X) : Prop :=
  ∀ (pins : List (Addr × Obj)) (O : Addr → Prop) (ρ : List Sl) (s : Shared), Ste B X pins O N ρ s → Gw B X (Wm X (isTrue e X.env (eval e X.env)) s) ((ev F ρ x).bind truth) (Pt X pins s)
/-- a test whatever its whole is -/
def STw (B : Bk) (X : Cx) (N : List Str) (F : Fx) (e : Expr) (x : Ev.X) : Prop :=
  ∀ (whole : Sem Value) (pins : List (Addr × Obj)) (O : Addr → Prop) (ρ : List Sl) (s : Shared), Ste B X pins O N ρ s → Gw B X (Wm X (isTrue e X.env whole) s) ((ev F ρ x).bind truth) (Pt X pins s)
def SA (B : Bk) (X : Cx) (N : List Str) (F : Fx) (es : List Expr) (xs : List Ev.X) : Prop :=
  ∀ (pos : Pos) (pins : List (Addr × Obj)) (O : Addr → Prop) (ρ : List Sl) (s : Shared), Ste B X pins O N ρ s → Gw B X (Wm X (spliced (backTo pos (starEach es X.env))) s) (evs F ρ xs) (Psts B X pins O s)

section
variable {B : Bk} {X : Cx} {N : List Str} {F : Fx} {pins : List (Addr × Obj)} {O : Addr → Prop} {ρ : List Sl} {s : Shared} {pos : Pos}
theorem se_var {x : Str} {i : Nat} (hx : x ∈ N) (hi : ix x N = i) (hv : Vis X.env.scope x) (hd : (x == ("__debug__" : Str)) = false) (hcd : (x == ("__classdict__" : Str)) = false) : SE B X N F (.Name x pos) (.var i) := by
  intro pins O ρ s S
  show Gw B X _ (match ρ[i]? with | some s => slotD s | none => .stuck) _
  cases e : ρ[i]? with
  | none => trivial
  | some sl =>
    cases sl with
    | un => trivial
    | own d => trivial
    | dat d =>
      obtain ⟨m, hn, he⟩ := S.env
      obtain ⟨u, l, h⟩ := he x d hx (by rw [hi]; exact e) hv
      have fin : Pst B X pins O s d u s := ⟨S.inv, Le.refl, h⟩
      show wpAny _ _ _ _ _ s
      rcases l with ⟨hk, hm⟩ | ⟨hk, c, hc, hcell⟩
      · exact wpAny_Name (wpAny_loadName_local S.inv.ok.kind hk hn hm fin) hd
      · rcases hk with hk | hk
        · exact wpAny_Name (wpAny_loadName_cell S.inv.ok.kind hk hc hcell fin) hd
        · exact wpAny_Name (wpAny_loadName_free S.inv.ok.kind hk hc hcell fin hcd) hd
theorem se_int {i : Int} {j : Nat} : SE B X N F (.Constant (.int i) j pos) (.con (.int i)) := fun pins O ρ s S =>
  wpAny_Constant_int ⟨S.inv.tok _, Le.kept (fun _ _ e => e) (Nat.le_succ _), .int i _⟩
theorem se_bool {b : Bool} {j : Nat} : SE B X N F (.Constant (.bool b) j pos) (.con (.bool b)) := fun pins O ρ s S => Constant_bool ⟨S.inv, Le.refl, .bool b⟩
theorem se_none {j : Nat} : SE B X N F (.Constant .none j pos) (.con .none) := fun pins O ρ s S => Constant_none ⟨S.inv, Le.refl, .none⟩
theorem se_str {x : Str} {j : Nat} {l : List Nat} (h : x = tS l) (hz : l.length ≤ sizeLine ∧ okc l = true) : SE B X N F (.Constant (.str x) j pos) (.con (.str l)) := fun pins O ρ s S => by
  subst h
  exact Calls.Constant_str ⟨S.inv.tok _, Le.kept (fun _ _ e => e) (Nat.le_succ _), .str l _ (.of S.tk (Nat.lt_succ_self _)) hz⟩
/-- a module's constant: an int; a text that is not one sign, or the blank -/
theorem se_gint {x : Str} {i : Int} (hm : ∃ t, X.mg x = some (.int i t)) (hg : L2.Gl X x) (hd : (x == ("__debug__" : Str)) = false) : SE B X N F (.Name x pos) (.con (.int i)) := fun pins O ρ s S => by
  obtain ⟨t, hm⟩ := hm
  exact ld_glob S.inv hg hm ⟨S.inv, Le.refl, .int i t⟩ hd
theorem se_gstr {x : Str} {l : List Nat} (hm : ∃ t, X.mg x = some (.str (tS l) t)) (hn : ∀ c, l = [c] → c = 32) (hz : l.length ≤ sizeLine ∧ okc l = true) (hg : L2.Gl X x) (hd : (x == ("__debug__" : Str)) = false) : SE B X N F (.Name x pos) (.con (.str l)) := fun pins O ρ s S => by
  obtain ⟨t, hm⟩ := hm
  exact ld_glob S.inv hg hm ⟨S.inv, Le.refl, .str l t (fun c e e' => absurd (hn c e) e') hz⟩ hd
/-- a def as a value -/
theorem se_fn {x : Str} {f : Nat} (hm : X.mg x = some (.ref (B.fa f))) (hg : L2.Gl X x) (hd : (x == ("__debug__" : Str)) = false) : SE B X N F (.Name x pos) (.con (.fn f)) := fun pins O ρ s S =>
  ld_glob S.inv hg hm ⟨S.inv, Le.refl, .fn f⟩ hd
theorem sa_nil : SA B X N F [] [] := fun pos pins O ρ s S => Calls.spliced_nil ⟨S.inv, Le.refl, .nil⟩
theorem sa_cons {e : Expr} {es : List Expr} {x : Ev.X} {xs : List Ev.X} (h : SE B X N F e x) (hr : SA B X N F es xs) (hs : starEach (e :: es) X.env = (false, eval e X.env) :: starEach es X.env) : SA B X N F (e :: es) (x :: xs) := by
  intro pos pins O ρ s S
  rw [hs]
  show Gw B X (Wm X (spliced ((false, eval e X.env) :: backTo pos (starEach es X.env))) s) ((ev F ρ x).bind fun d => (evs F ρ xs).bind fun l => .ok (d :: l)) _
  refine Gw.bind (K := fun v s1 Q => wpAny (model X.prog X.w) X.A (spliced (backTo pos (starEach es X.env))) (fun us s2 => Q (v :: us) s2) X.xe s1) wm_mono (fun Q hq => Calls.spliced_cons hq) (h pins O ρ s S) fun d v s1 _ p => ?_
  refine Gw.bind (W1 := Wm X (spliced (backTo pos (starEach es X.env))) s1) (K := fun us s2 Q => Q (v :: us) s2) wm_mono (fun Q hq => hq) (hr pos pins O ρ s1 (S.step p.1 p.2.1)) fun ds us s2 _ p2 => ?_
  exact ⟨p2.1, p.2.1.trans p2.2.1, .cons (p2.2.1.dat S.fr p.2.2) p2.2.2⟩
end
end Ev
namespace Ev
open PySem PySem.Spec PyProof.Rows L2
section
variable {B : Bk} {X : Cx} {N : List Str} {F : Fx} {pins : List (Addr × Obj)} {O : Addr → Prop} {ρ : List Sl} {s : Shared} {pos : Pos}
theorem Ste.new (S : Ste B X pins O N ρ s) : ¬ O s.heap.objs.size := fun h => by
  obtain ⟨o, e⟩ := S.dom _ h
  exact Nat.lt_irrefl _ (Heap.lt_size e)
theorem pst_now (S : Ste B X pins O N ρ s) {u : Value} {d : D} (h : DV B O s.heap s.toks u d) : Pst B X pins O s d u s := ⟨S.inv, Le.refl, h⟩
theorem pst_tok (S : Ste B X pins O N ρ s) {k : Nat} (hk : s.toks ≤ k) {u : Value} {d : D} (h : DV B O s.heap k u d) : Pst B X pins O s d u { s with toks := k } := ⟨S.inv.tok _, Le.kept (fun _ _ e => e) hk, h⟩
theorem pst_int (S : Ste B X pins O N ρ s) {k : Nat} (hk : s.toks ≤ k) {i : Int} {t : Tok} : Pst B X pins O s (.int i) (.int i t) { s with toks := k } := pst_tok S hk (.int i t)
/-- a new list, a new tuple -/
theorem pst_newL (S : Ste B X pins O N ρ s) {its : List Value} {ds : List D} (z : its.length ≤ sizeLine) (h : DVs B O s.heap s.toks its ds) :
    Pst B X pins O s (.list ds) (.ref s.heap.objs.size) { s with heap := s.heap.push { cls := .type "list", data := .seq its.toArray } } :=
  ⟨S.inv.kept (t' := s.toks) fun b u e => Heap.get?_push_of_some _ e, Le.kept (fun b o e => Heap.get?_push_of_some _ e) (Nat.le_refl _),
    .list S.new (Heap.get?_push_size _ rfl) z (h.mono (fun b o _ e => Heap.get?_push_of_some _ e) (Nat.le_refl _) fun _ z => z)⟩
theorem pst_newT (S : Ste B X pins O N ρ s) {its : List Value} {ds : List D} (z : its.length ≤ sizeLine) (h : DVs B O s.heap s.toks its ds) :
    Pst B X pins O s (.tuple ds) (.ref s.heap.objs.size) { s with heap := s.heap.push { cls := .type "tuple", data := .seq its.toArray } } :=
  ⟨S.inv.kept (t' := s.toks) fun b u e => Heap.get?_push_of_some _ e, Le.kept (fun b o e => Heap.get?_push_of_some _ e) (Nat.le_refl _),
    .tuple S.new (Heap.get?_push_size _ rfl) z (h.mono (fun b o _ e => Heap.get?_push_of_some _ e) (Nat.le_refl _) fun _ z => z)⟩
theorem evs_len {ρ : List Sl} : ∀ {xs : List Ev.X} {ds : List D}, evs F ρ xs = .ok ds → ds.length = xs.length
  | [], ds, e => by
    cases e
    rfl
  | x :: xs, ds, e => by
    have e' : (ev F ρ x).bind (fun d => (evs F ρ xs).bind fun l => .ok (d :: l)) = R.ok ds := e
    cases e1 : ev F ρ x with
    | ok d =>
      rw [e1] at e'
      cases e2 : evs F ρ xs with
      | ok l =>
        rw [e2] at e'
        cases e'
        simp [evs_len e2]
      | err c =>
        rw [e2] at e'
        cases e'
      | stuck =>
        rw [e2] at e'
        cases e'
    | err c =>
      rw [e1] at e'
      cases e'
    | stuck =>
      rw [e1] at e'
      cases e'
theorem se_list {es : List Expr} {xs : List Ev.X} (h : SA B X N F es xs) (hl : xs.length ≤ 1000) : SE B X N F (.List es pos) (.list xs) := by
  intro pins O ρ s S
  show Gw B X _ ((evs F ρ xs).bind fun l => .ok (D.list l)) _
  refine Gw.bind (K := fun vs s1 Q => vs.length ≤ sizeLine ∧ Q (.ref s1.heap.objs.size) { s1 with heap := s1.heap.push { cls := .type "list", data := .seq vs.toArray } }) wm_mono (fun Q hq => wpAny_List_spliced hq) (h pos pins O ρ s S) fun ds vs s1 e p => ?_
  have z : vs.length ≤ sizeLine := by
    rw [p.2.2.length, evs_len e, sizeLine_eq]
    omega
  exact ⟨z, (pst_newL (S.step p.1 p.2.1) z p.2.2).later p.2.1⟩
theorem se_tuple {es : List Expr} {xs : List Ev.X} {x1 : Nat} (h : SA B X N F es xs) (hl : xs.length ≤ 1000) : SE B X N F (.Tuple es x1 pos) (.tuple xs) := by
  intro pins O ρ s S
  show Gw B X _ ((evs F ρ xs).bind fun l => .ok (D.tuple l)) _
  refine Gw.bind (K := fun vs s1 Q => vs.length ≤ sizeLine ∧ Q (.ref s1.heap.objs.size) { s1 with heap := s1.heap.push { cls := .type "tuple", data := .seq vs.toArray } }) wm_mono (fun Q hq => wpAny_Tuple_spliced hq) (h pos pins O ρ s S) fun ds vs s1 e p => ?_
  have z : vs.length ≤ sizeLine := by
    rw [p.2.2.length, evs_len e, sizeLine_eq]
    omega
  exact ⟨z, (pst_newT (S.step p.1 p.2.1) z p.2.2).later p.2.1⟩
/-- an operation on two values -/
def S2 (B : Bk) (X : Cx) (f : Value → Value → Sem Value) (g : D → D → R D) : Prop := ∀ (pins : List (Addr × Obj)) (O : Addr → Prop) (N : List Str) (ρ : List Sl) (s : Shared) (x y : D) (v u : Value), Ste B X pins O N ρ s →
  DV B O s.heap s.toks v x → DV B O s.heap s.toks u y → Gw B X (Wm X (f v u) s) (g x y) (Pst B X pins O s)
theorem Gw.later {W : (Value → Shared → Prop) → Prop} {r : R D} {s1 : Shared} (m : Mono W) (l : Le X s s1) (h : Gw B X W r (Pst B X pins O s1)) : Gw B X W r (Pst B X pins O s) := h.mono m fun _ _ _ p => p.later l
/-- a, then b, then f of both -/
theorem se_two {e a b : Expr} {xa xb : Ev.X} {g : D → D → R D} {f : Value → Value → Sem Value} (ha : SE B X N F a xa) (hb : SE B X N F b xb) (hf : S2 B X f g)
    (rule : ∀ (s : Shared) (Q : Value → Shared → Prop), wpAny (model X.prog X.w) X.A (eval a X.env) (fun v s1 => wpAny (model X.prog X.w) X.A (eval b X.env) (fun u s2 => wpAny (model X.prog X.w) X.A (f v u) Q X.xe s2) X.xe s1) X.xe s → wpAny (model X.prog X.w) X.A (eval e X.env) Q X.xe s)
    (S : Ste B X pins O N ρ s) : Gw B X (Wm X (eval e X.env) s) ((ev F ρ xa).bind fun x => (ev F ρ xb).bind fun y => g x y) (Pst B X pins O s) := by
  refine Gw.bind (K := fun v s1 Q => wpAny (model X.prog X.w) X.A (eval b X.env) (fun u s2 => wpAny (model X.prog X.w) X.A (f v u) Q X.xe s2) X.xe s1) wm_mono (fun Q hq => rule s Q hq) (ha pins O ρ s S) fun x v s1 _ p => ?_
  have S1 := S.step p.1 p.2.1
  refine Gw.bind (W1 := Wm X (eval b X.env) s1) (K := fun u s2 Q => wpAny (model X.prog X.w) X.A (f v u) Q X.xe s2) wm_mono (fun Q hq => hq) (hb pins O ρ s1 S1) fun y u s2 _ p2 => ?_
  exact (hf pins O N ρ s2 x y v u (S1.step p2.1 p2.2.1) (p2.2.1.dat S.fr p.2.2) p2.2.2).later wm_mono (p.2.1.trans p2.2.1)
theorem fits_line {n : Nat} (h : fits n = true) : n ≤ sizeLine := by
  rw [sizeLine_eq]
  exact Nat.le_of_ble_eq_true h
theorem str_app (a b : List Nat) : tS a ++ tS b = tS (a ++ b) := by
  show Str.append _ _ = _
  simp [Str.append]
/-- a text that was made -/
theorem post_str (S : Ste B X pins O N ρ s) {l : List Nat} (hz : l.length ≤ sizeLine ∧ okc l = true) : (Made.str (tS l)).post (Pst B X pins O s (.str l)) s :=
  ⟨by rw [tS_len]; exact hz.1, S.inv.tok _, Le.kept (fun _ _ e => e) (Nat.le_succ _), .str l _ (.of S.tk (Nat.lt_succ_self _)) hz⟩
theorem post_val (S : Ste B X pins O N ρ s) {u : Value} {d : D} (h : DV B O s.heap s.toks u d) : (Made.val u).post (Pst B X pins O s d) s := pst_now S h
theorem s2_add : S2 B X (binaryOp .Add) (binD .add) := by
  intro pins O N ρ s x y v u S h1 h2
  cases h1 with
  | int i t =>
    cases h2 with
    | int j t' => exact add_int (pst_int S (Nat.le_succ _))
    | _ => exact True.intro
  | str l t g z =>
    cases h2 with
    | str l2 t2 g2 z2 =>
      refine Gw.guard fun hf => ?_
      have hz := fits_line hf
      refine PySem.P.add_str ?_
      rw [tS_len, tS_len]
      cases l with
      | nil =>
        simp only [List.length_nil, beq_self_eq_true, if_true, List.nil_append]
        exact post_val S (.str l2 t2 g2 z2)
      | cons c r =>
        rw [if_neg (by simp)]
        cases l2 with
        | nil =>
          simp only [List.length_nil, beq_self_eq_true, if_true, List.append_nil]
          exact post_val S (.str _ t g z)
        | cons c2 r2 =>
          rw [if_neg (by simp), str_app]
          exact post_str S ⟨hz, okc_app z.2 z2.2⟩
    | _ => exact True.intro
  | @list a its ep ds no e z r =>
    cases h2 with
    | @list a2 its2 ep2 ds2 no2 e2 z2 r2 =>
      refine Gw.guard fun hf => ?_
      have hz := fits_line hf
      have hl : its.length + its2.length ≤ sizeLine := by
        rw [r.length, r2.length, ← List.length_append]
        exact hz
      refine PySem.P.add_list e e2 ?_ (by rw [List.size_toArray, List.size_toArray]; exact hl)
      have ea : its.toArray ++ its2.toArray = (its ++ its2).toArray := by simp
      rw [ea]
      exact pst_newL S (by rw [List.length_append]; exact hl) (r.append r2)
    | _ => exact True.intro
  | @tuple a its ep ds no e z r =>
    cases h2 with
    | @tuple a2 its2 ep2 ds2 no2 e2 z2 r2 =>
      refine Gw.guard fun hf => ?_
      have hz := fits_line hf
      have hl : its.length + its2.length ≤ sizeLine := by
        rw [r.length, r2.length, ← List.length_append]
        exact hz
      by_cases n1 : its = []
      · subst n1
        cases r
        rw [List.nil_append]
        exact concat_meets ⟨_, e, rfl⟩ ⟨_, e2, rfl⟩ noFill_tuple_add seq_tuple_add PySem.F.slot_tuple_add PySem.F.entry_tuple_add (PySem.F.args_tuple_add_2 _ _) (tuple_addW0 a a2 _ _ ep ep2 none none #[] #[] rfl) ⟨e, e2, pst_now S (.tuple no2 e2 z2 r2)⟩
      · refine HT.cat_tup (ws := its2) ⟨_, e, rfl, _, rfl⟩ ⟨_, e2, rfl, _, rfl⟩ n1 (fun z => ?_) (fun z => pst_newT S (by rw [List.length_append]; exact hl) (r.append r2)) hl
        subst z
        cases r2
        rw [List.append_nil]
        exact pst_now S (.tuple no e ‹_› r)
    | _ => exact True.intro
  | _ => exact True.intro
theorem s2_sub : S2 B X (binaryOp .Sub) (binD .sub) := by
  intro pins O N ρ s x y v u S h1 h2
  cases h1 with
  | int i t =>
    cases h2 with
    | int j t' => exact sub_int (pst_int S (Nat.le_succ _))
    | _ => exact True.intro
  | _ => cases h2 <;> exact True.intro
theorem s2_mod : S2 B X (binaryOp .Mod) (binD .mod) := by
  intro pins O N ρ s x y v u S h1 h2
  cases h1 with
  | int i t =>
    cases h2 with
    | int j t' =>
      refine Gw.guard fun hf => ?_
      have h : 0 < j := of_decide_eq_true hf
      exact mod_int' (by omega) (by rw [Int.fmod_eq_emod_of_nonneg i (by omega)]; exact pst_int S (Nat.le_succ _))
    | _ => exact True.intro
  | _ => cases h2 <;> exact True.intro
theorem s2_fdiv : S2 B X (binaryOp .FloorDiv) (binD .fdiv) := by
  intro pins O N ρ s x y v u S h1 h2
  cases h1 with
  | int i t =>
    cases h2 with
    | int j t' =>
      refine Gw.guard fun hf => ?_
      have h : 0 < j ∧ j < 2 ^ 64 := of_decide_eq_true hf
      have h64 : j.natAbs < 2 ^ 64 := by omega
      have hl : j.natAbs.log2 < 9000 := Nat.lt_of_lt_of_le (PySem.Flt.log2_lt_of (show 0 < 64 by decide) h64) (by decide)
      exact floordiv_int (by omega) (by rw [Int.fdiv_eq_ediv_of_nonneg i (by omega)]; exact pst_int S (Nat.le_succ _)) (.inl (PyProof.noPylong_of_log2 hl))
    | _ => exact True.intro
  | _ => cases h2 <;> exact True.intro
theorem s2_pow : S2 B X (binaryOp .Pow) (binD .pow) := by
  intro pins O N ρ s x y v u S h1 h2
  cases h1 with
  | int i t =>
    cases h2 with
    | int j t' =>
      refine Gw.guard fun hf => ?_
      obtain ⟨q0, q1, q2, q3⟩ : 0 ≤ j ∧ j ≤ 1000 ∧ -(2 ^ 62) < i ∧ i < 2 ^ 62 := of_decide_eq_true hf
      exact pow_int_small q0 (by omega) (by omega) (pst_int S (Nat.le_succ _))
    | _ => exact True.intro
  | _ => cases h2 <;> exact True.intro
theorem s2_shl : S2 B X (binaryOp .LShift) (binD .shl) := by
  intro pins O N ρ s x y v u S h1 h2
  cases h1 with
  | int i t =>
    cases h2 with
    | int j t' =>
      refine Gw.guard fun hf => ?_
      obtain ⟨q0, q1, q2, q3⟩ : 0 ≤ j ∧ j ≤ 1000 ∧ -(2 ^ 62) < i ∧ i < 2 ^ 62 := of_decide_eq_true hf
      exact lshift_int_small q0 (by omega) (by omega) (pst_int S (Nat.le_succ _))
    | _ => exact True.intro
  | _ => cases h2 <;> exact True.intro
theorem small_mul {i j : Int} (h : (small i || small j) = true) : IntMulOk i j := by
  rcases Bool.or_eq_true_iff.mp h with h | h
  · obtain ⟨a, b⟩ : -(2 ^ 64) < i ∧ i < 2 ^ 64 := of_decide_eq_true h
    exact .of_left (intBits_le_64 a b)
  · obtain ⟨a, b⟩ : -(2 ^ 64) < j ∧ j < 2 ^ 64 := of_decide_eq_true h
    exact .of_right (intBits_le_64 a b)
theorem rep_list (S : Ste B X pins O N ρ s) {l : Addr} {its : List Value} {n : Nat} {k : Int} {t : Tok} {ds : List D} (e : s.heap.get? l = some { cls := .type "list", data := .seq its.toArray n }) (r : DVs B O s.heap s.toks its ds) (h0 : 0 ≤ k) (h1 : k ≤ 1000) (hz : ds.length ≤ 1000) :
    wpAny (model X.prog X.w) X.A (binaryOp .Mult (.ref l) (.int k t)) (Pst B X pins O s (.list (List.replicate k.toNat ds).flatten)) X.xe s := by
  have hl := r.length
  have hm : k.toNat * its.length ≤ 1000 * 1000 := Nat.mul_le_mul (by omega) (by omega)
  have hs := sizeLine_eq
  have hlen : its.toArray.size * k.toNat ≤ sizeLine := by rw [List.size_toArray, Nat.mul_comm]; omega
  have hcap : ¬ its.toArray.size * k.toNat > (2 ^ 63 - 1) / 8 := by
    have : (sizeLine : Nat) ≤ (2 ^ 63 - 1) / 8 := by decide
    omega
  have hfit : ¬ (!Builtin.List.listFitsIndex k) = true := by
    rw [fitsIndex_both (by omega) (by omega)]
    exact Bool.false_ne_true
  have hlong : ¬ Builtin.List.listTooLong (its.toArray.size * k.toNat) = true := by
    rw [notLongL hlen]
    exact Bool.false_ne_true
  have hnew : List.foldl (fun x1 x2 => x1 ++ x2) #[] (List.replicate (if its.toArray.isEmpty = true then 0 else k.toNat) its.toArray) = (List.replicate k.toNat its).flatten.toArray := by
    rw [size_rep]
    cases its with
    | nil => simp
    | cons a r' => rw [if_neg (by simp)]
  refine wpAny_binaryOp_repeat_ref (T := "list") (U := "int") (by decide) ⟨_, e, rfl⟩ (fun s' => typeIs_int s' k t) noFill_list_mul F.fills_int_mul F.slot_int_rmul repeat_list F.slot_int_index.lookup
    (call_meets F.slot_int_rmul (typeIs_int s k t) F.entry_int_rmul (F.args_int_rmul_2 _ _) (int___rmul___int_list k t l its.toArray n)
      ⟨e, rfl, ⟨_, e, rfl⟩, call_meets F.slot_list_mul ⟨_, e, rfl⟩ F.entry_list_mul (F.args_list_mul_2 _ _) (AutoListH.list___mul___list_int_3 l its.toArray n k t hfit hcap hlong) ⟨e, ?_⟩⟩)
  rw [hnew]
  exact pst_newL S (by rw [PyProof.Rows.lm_len_rep_flat]; omega) (r.rep _)
theorem rep_tuple (S : Ste B X pins O N ρ s) {l : Addr} {its : List Value} {n : Nat} {k : Int} {t : Tok} {ds : List D} (ho : s.heap.get? l = some { cls := .type "tuple", data := .seq its.toArray n }) (r : DVs B O s.heap s.toks its ds) (h0 : 2 ≤ k) (h1 : k ≤ 1000) (hz : ds.length ≤ 1000) (hne : ds ≠ []) :
    wpAny (model X.prog X.w) X.A (binaryOp .Mult (.ref l) (.int k t)) (Pst B X pins O s (.tuple (List.replicate k.toNat ds).flatten)) X.xe s := by
  have hle := r.length
  have hn : its ≠ [] := fun e => hne (by
    rw [e] at hle
    exact List.eq_nil_of_length_eq_zero hle.symm)
  have hi : its.toArray.isEmpty = false := by
    cases its with
    | nil => exact absurd rfl hn
    | cons a b => rfl
  have hs := sizeLine_eq
  have hm : ((its.toArray.size : Nat) : Int) * k ≤ 1000000 := by
    rw [List.size_toArray]
    have a1 : ((its.length : Nat) : Int) * k ≤ 1000 * k := Int.mul_le_mul_of_nonneg_right (by omega) (by omega)
    omega
  have flen : (List.replicate k.toNat its).flatten.length ≤ sizeLine := by
    rw [PyProof.Rows.lm_len_rep_flat]
    have a1 : k.toNat * its.length ≤ 1000 * 1000 := Nat.mul_le_mul (by omega) (by omega)
    omega
  have c0 : (decide (k < -(2 ^ 63)) || decide (k ≥ 2 ^ 63)) = false := by
    rw [decide_eq_false (by omega), decide_eq_false (by omega)] <;> rfl
  have c1 : (its.toArray.isEmpty || k == 1) = false := by
    rw [hi, Bool.false_or]
    exact beq_eq_false_iff_ne.mpr (by omega)
  have c2 : (decide (k ≤ 0) || its.toArray.isEmpty) = false := by
    rw [hi, Bool.or_false]
    exact decide_eq_false (by omega)
  have c4 : Builtin.Tuple.tupleTooMany (((its.toArray.size : Nat) : Int) * k) = false := by
    unfold Builtin.Tuple.tupleTooMany
    rw [sizeLine_eq]
    exact decide_eq_false (by omega)
  refine wpAny_binaryOp_repeat_ref (T := "tuple") (U := "int") (by decide) ⟨_, ho, rfl⟩ (fun s' => typeIs_int s' k t) noFill_tuple_mul F.fills_int_mul F.slot_int_rmul repeat_tuple F.slot_int_index.lookup
    (call_meets F.slot_int_rmul (typeIs_int s k t) F.entry_int_rmul (F.args_int_rmul_2 _ _) (int_rmul_tuple k t l its.toArray n none #[])
      ⟨ho, rfl, ⟨_, ho, rfl⟩, call_meets F.slot_tuple_mul ⟨_, ho, rfl⟩ F.entry_tuple_mul (F.args_tuple_mul_2 _ _) (tuple_mulW l its.toArray n none #[] k t c0 c1 c2 (by omega) c4 (by rw [size_rep, List.size_toArray]; exact flen)) ⟨ho, ?_⟩⟩)
  rw [size_rep]
  exact pst_newT S flen (r.rep _)
theorem s2_mul : S2 B X (binaryOp .Mult) (binD .mul) := by
  intro pins O N ρ s x y v u S h1 h2
  cases h1 with
  | int i t =>
    cases h2 with
    | int j t' => exact Gw.guard fun hf => mul_int (pst_int S (Nat.le_succ _)) (small_mul hf)
    | _ => exact True.intro
  | @list a its ep ds no e z r =>
    cases h2 with
    | int j t' =>
      refine Gw.guard fun hf => ?_
      rw [Bool.and_eq_true] at hf
      obtain ⟨q1, q2⟩ : 0 ≤ j ∧ j ≤ 1000 := of_decide_eq_true hf.1
      exact rep_list S e r q1 q2 (Nat.le_of_ble_eq_true hf.2)
    | bool k =>
      refine Gw.guard fun hf => ?_
      have hl := r.length
      have hs := sizeLine_eq
      have hk : (if k = true then (1 : Int) else 0).toNat ≤ 1 := by cases k <;> simp
      have hm : its.toArray.size * (if k = true then (1 : Int) else 0).toNat ≤ its.length := by
        rw [List.size_toArray]
        exact Nat.le_trans (Nat.mul_le_mul_left _ hk) (Nat.le_of_eq (Nat.mul_one _))
      refine wpAny_binaryOp_repeat_ref (T := "list") (U := "bool") (by decide) ⟨_, e, rfl⟩ (fun s' => rfl) noFill_list_mul F.fills_bool_mul F.slot_bool_rmul repeat_list F.slot_bool_index.lookup
        (call_meets F.slot_bool_rmul rfl F.entry_int_rmul (F.args_int_rmul_2 _ _) (q_rmul_bool k a its.toArray ep none #[])
          ⟨e, rfl, ⟨_, e, rfl⟩, call_meets F.slot_list_mul ⟨_, e, rfl⟩ F.entry_list_mul (F.args_list_mul_2 _ _)
            (q_mul_bool a its.toArray ep none #[] k (by cases k <;> decide) (by omega) (by simp only [Builtin.List.listTooLong, decide_eq_true_eq]; omega)) ⟨e, ?_⟩⟩)
      rw [listMul_foldl_if]
      cases k with
      | true => simpa using pst_newL S z r
      | false => simpa using pst_newL S (its := []) (ds := []) (Nat.zero_le _) .nil
    | _ => exact True.intro
  | @tuple a its ep ds no e z r =>
    cases h2 with
    | int j t' =>
      refine Gw.guard fun hf => ?_
      rw [Bool.and_eq_true, Bool.and_eq_true] at hf
      obtain ⟨q1, q2⟩ : 2 ≤ j ∧ j ≤ 1000 := of_decide_eq_true hf.1.1
      exact rep_tuple S e r q1 q2 (Nat.le_of_ble_eq_true hf.1.2) (fun e => by subst e; simp at hf)
    | _ => exact True.intro
  | _ => cases h2 <;> exact True.intro
end
end Ev
namespace Ev
open PySem PySem.Spec PyProof.Rows L2
mutual
def pd : D → PyData
  | .none => .none
  | .bool b => .bool b
  | .int i => .int i
  | .str l => .str (tS l)
  | .list xs => .list (pdL xs)
  | .tuple xs => .tuple (pdL xs)
  | _ => .none
def pdL : List D → List PyData
  | [] => []
  | d :: ds => pd d :: pdL ds
end
theorem pdL_map : ∀ l : List D, pdL l = l.map pd
  | [] => rfl
  | d :: ds => by rw [pdL, pdL_map ds]; rfl
section
variable {B : Bk} {O : Addr → Prop} {h : Heap} {n : Nat}
theorem reads_canLay_of (k : Nat) : ∀ {v : Value} {d : D}, DV B O h n v d → shp k d = true → (∃ as, Reads h v (pd d) as) ∧ (pd d).canLay0 = true ∧ (pd d).depth ≤ k := by
  induction k with
  | zero =>
    intro v d x s
    cases x with
    | none => exact ⟨⟨_, .none⟩, rfl, by simp [pd, PyData.depth]⟩
    | bool b => exact ⟨⟨_, .bool b⟩, rfl, by simp [pd, PyData.depth]⟩
    | int i t => exact ⟨⟨_, .int i t⟩, rfl, by simp [pd, PyData.depth]⟩
    | str l t g z =>
      refine ⟨⟨_, .str _ t⟩, ?_, by simp [pd, PyData.depth]⟩
      simp only [pd, PyData.canLay0, PyData.strOk]
      simpa [okc] using z.2
    | _ => cases s
  | succ k ih =>
    have all : ∀ {vs : List Value} {ds : List D}, DVs B O h n vs ds → ds.all (shp k) = true → (∃ as, ReadsAll h vs (pdL ds) as) ∧ PyData.canLayAll0 (pdL ds) = true ∧ PyData.depthAll (pdL ds) ≤ k := by
      intro vs
      induction vs with
      | nil =>
        intro ds x _
        cases x
        exact ⟨⟨_, .nil⟩, rfl, by simp [pdL, PyData.depthAll]⟩
      | cons v vs ih2 =>
        intro ds x s
        cases x with
        | cons a r =>
          rw [List.all_cons, Bool.and_eq_true] at s
          obtain ⟨⟨as, q1⟩, c1, d1⟩ := ih a s.1
          obtain ⟨⟨bs, q2⟩, c2, d2⟩ := ih2 r s.2
          refine ⟨⟨_, .cons q1 q2⟩, ?_, ?_⟩
          · simp only [pdL, PyData.canLayAll0, c1, c2]
            rfl
          · simp only [pdL, PyData.depthAll]
            omega
    intro v d x s
    cases x with
    | none => exact ⟨⟨_, .none⟩, rfl, by simp [pd, PyData.depth]⟩
    | bool b => exact ⟨⟨_, .bool b⟩, rfl, by simp [pd, PyData.depth]⟩
    | int i t => exact ⟨⟨_, .int i t⟩, rfl, by simp [pd, PyData.depth]⟩
    | str l t g z =>
      refine ⟨⟨_, .str _ t⟩, ?_, by simp [pd, PyData.depth]⟩
      simp only [pd, PyData.canLay0, PyData.strOk]
      simpa [okc] using z.2
    | list no e z r =>
      obtain ⟨⟨as, q1⟩, c1, d1⟩ := all r s
      exact ⟨⟨_, .list e rfl rfl q1⟩, by simpa [pd, PyData.canLay0] using c1, by simp only [pd, PyData.depth]; omega⟩
    | tuple no e z r =>
      obtain ⟨⟨as, q1⟩, c1, d1⟩ := all r s
      exact ⟨⟨_, .tuple e rfl rfl q1⟩, by simpa [pd, PyData.canLay0] using c1, by simp only [pd, PyData.depth]; omega⟩
    | fn f => cases s
    | exc no e c => cases s
end
theorem tS_eq (a b : List Nat) : (tS a == tS b) = (a == b) := by
  rw [Bool.eq_iff_iff]
  simp [tS]
mutual
theorem eqv_pd : ∀ (x y : D) (k j : Nat), shp k x = true → shp j y = true → PyData.eqv (pd x) (pd y) = eqB x y
  | .none, y, k, j, _, hy => by cases y <;> first | (simp [pd, PyData.eqv, eqB]; done) | (cases j <;> simp [shp] at hy)
  | .bool a, y, k, j, _, hy => by cases y <;> first | (simp [pd, PyData.eqv, eqB]; done) | (cases j <;> simp [shp] at hy)
  | .int a, y, k, j, _, hy => by cases y <;> first | (simp [pd, PyData.eqv, eqB]; done) | (cases j <;> simp [shp] at hy)
  | .str a, y, k, j, _, hy => by cases y <;> first | (simp only [pd, PyData.eqv, eqB, tS_eq]; done) | (cases j <;> simp [shp] at hy)
  | .list a, y, k, j, hx, hy => by
    cases k with
    | zero => simp [shp] at hx
    | succ k =>
      cases y <;> first
        | (cases j with
          | zero => simp [shp] at hy
          | succ j =>
            simp only [pd, PyData.eqv, eqB]
            exact eqv_pdL a _ k j hx hy)
        | (simp [pd, PyData.eqv, eqB]; done)
        | (cases j <;> simp [shp] at hy)
  | .tuple a, y, k, j, hx, hy => by
    cases k with
    | zero => simp [shp] at hx
    | succ k =>
      cases y <;> first
        | (cases j with
          | zero => simp [shp] at hy
          | succ j =>
            simp only [pd, PyData.eqv, eqB]
            exact eqv_pdL a _ k j hx hy)
        | (simp [pd, PyData.eqv, eqB]; done)
        | (cases j <;> simp [shp] at hy)
  | .dict _, _, k, _, hx, _ => by cases k <;> simp [shp] at hx
  | .fn _, _, k, _, hx, _ => by cases k <;> simp [shp] at hx
  | .exc _, _, k, _, hx, _ => by cases k <;> simp [shp] at hx
theorem eqv_pdL : ∀ (x y : List D) (k j : Nat), x.all (shp k) = true → y.all (shp j) = true → PyData.eqvAll (pdL x) (pdL y) = eqL x y
  | [], [], _, _, _, _ => by simp [pdL, PyData.eqvAll, eqL]
  | [], _ :: _, _, _, _, _ => by simp [pdL, PyData.eqvAll, eqL]
  | _ :: _, [], _, _, _, _ => by simp [pdL, PyData.eqvAll, eqL]
  | a :: as, b :: bs, k, j, hx, hy => by
    rw [List.all_cons, Bool.and_eq_true] at hx hy
    simp only [pdL, PyData.eqvAll, eqL, eqv_pd a b k j hx.1 hy.1, eqv_pdL as bs k j hx.2 hy.2]
end
open PySem.W in
mutual
theorem alike_pd : ∀ (x y : D), alk x y = true → alike (pd x) (pd y) = true
  | .none, y, h => by cases y <;> simp_all [alk, pd, alike]
  | .bool _, y, h => by cases y <;> simp_all [alk, pd, alike]
  | .int _, y, h => by cases y <;> simp_all [alk, pd, alike]
  | .str _, y, h => by cases y <;> simp_all [alk, pd, alike]
  | .list a, y, h => by
    cases y <;> first
      | (simp only [alk] at h
         simp only [pd, alike]
         exact alike_pdL a _ h)
      | (simp [alk] at h)
  | .tuple a, y, h => by
    cases y <;> first
      | (simp only [alk] at h
         simp only [pd, alike]
         exact alike_pdL a _ h)
      | (simp [alk] at h)
  | .dict _, y, h => by cases y <;> simp [alk] at h
  | .fn _, y, h => by cases y <;> simp [alk] at h
  | .exc _, y, h => by cases y <;> simp [alk] at h
theorem alike_pdL : ∀ (x y : List D), alkL x y = true → alikeAll (pdL x) (pdL y) = true
  | [], _, _ => by simp [pdL, alikeAll]
  | _ :: _, [], _ => by simp [pdL, alikeAll]
  | a :: as, b :: bs, h => by
    rw [alkL, Bool.and_eq_true] at h
    simp only [pdL, alikeAll, alike_pd a b h.1, alike_pdL as bs h.2]
    rfl
end
open PySem.W in
theorem row_nil_cons (y : PyData) (ys : List PyData) : PyProof.Rows.lexLt itemOrd (keyToksAll []) (keyToksAll (y :: ys)) = true := by
  simp only [keyToksAll]
  rfl
open PySem.W in
theorem row_cons_nil (y : PyData) (ys : List PyData) : PyProof.Rows.lexLt itemOrd (keyToksAll (y :: ys)) (keyToksAll []) = false := by
  simp only [keyToksAll]
  rfl
open PySem.W in
theorem row_nil_nil : PyProof.Rows.lexLt itemOrd (keyToksAll []) (keyToksAll []) = false := by
  simp only [keyToksAll]
  rfl
open PySem.W in
mutual
theorem lt_pd : ∀ (x y : D) (k j : Nat), alk x y = true → isNone x = false → shp k x = true → shp j y = true → dataLt (pd x) (pd y) = ltB x y
  | .none, y, k, j, h, hn, _, _ => by cases hn
  | .bool a, y, k, j, h, _, _, _ => by
    cases y with
    | bool b =>
      simp only [pd, ltB, dataLt_bool]
      cases a <;> cases b <;> decide
    | _ => simp [alk] at h
  | .int a, y, k, j, h, _, _, _ => by
    cases y <;> first
      | (simp only [pd, ltB, dataLt_int]; done)
      | (simp [alk] at h)
  | .str a, y, k, j, h, _, _, _ => by
    cases y <;> first
      | (simp only [pd, ltB, dataLt_str]; done)
      | (simp [alk] at h)
  | .list a, y, k, j, h, _, hx, hy => by
    cases k with
    | zero => simp [shp] at hx
    | succ k =>
      cases y <;> first
        | (cases j with
          | zero => simp [shp] at hy
          | succ j =>
            simp only [pd, ltB, dataLt_list]
            exact lt_pdL a _ k j (by simpa [alk] using h) hx hy)
        | (simp [alk] at h)
  | .tuple a, y, k, j, h, _, hx, hy => by
    cases k with
    | zero => simp [shp] at hx
    | succ k =>
      cases y <;> first
        | (cases j with
          | zero => simp [shp] at hy
          | succ j =>
            simp only [pd, ltB, dataLt_tuple]
            exact lt_pdL a _ k j (by simpa [alk] using h) hx hy)
        | (simp [alk] at h)
  | .dict _, y, _, _, h, _, _, _ => by cases y <;> simp [alk] at h
  | .fn _, y, _, _, h, _, _, _ => by cases y <;> simp [alk] at h
  | .exc _, y, _, _, h, _, _, _ => by cases y <;> simp [alk] at h
theorem lt_pdL : ∀ (x y : List D) (k j : Nat), alkL x y = true → x.all (shp k) = true → y.all (shp j) = true → PyProof.Rows.lexLt itemOrd (keyToksAll (pdL x)) (keyToksAll (pdL y)) = ltL x y
  | [], [], _, _, _, _, _ => by
    simp only [pdL, ltL]
    exact row_nil_nil
  | [], _ :: _, _, _, _, _, _ => by
    simp only [pdL, ltL]
    exact row_nil_cons _ _
  | _ :: _, [], _, _, _, _, _ => by
    simp only [pdL, ltL]
    exact row_cons_nil _ _
  | a :: as, b :: bs, k, j, h, hx, hy => by
    rw [List.all_cons, Bool.and_eq_true] at hx hy
    rw [alkL, Bool.and_eq_true] at h
    simp only [pdL, ltL]
    rw [dataLt_cons (alike_pd a b h.1), eqv_pd a b k j hx.1 hy.1, lt_pdL as bs k j h.2 hx.2 hy.2]
    by_cases e : eqB a b = true
    · rw [if_pos e, if_pos e]
    · rw [if_neg e, if_neg e]
      refine lt_pd a b k j h.1 ?_ hx.1 hy.1
      cases a <;> first | rfl | (cases b <;> simp [alk, eqB] at h e)
end
section
variable {B : Bk} {X : Cx} {N : List Str} {F : Fx} {pins : List (Addr × Obj)} {O : Addr → Prop} {ρ : List Sl} {s : Shared} {pos : Pos}
/-- a comparison, as a value -/
def S2c (B : Bk) (X : Cx) (f : Value → Value → Sem Value) (g : D → D → R Bool) : Prop := ∀ (pins : List (Addr × Obj)) (O : Addr → Prop) (N : List Str) (ρ : List Sl) (s : Shared) (x y : D) (v u : Value), Ste B X pins O N ρ s →
  DV B O s.heap s.toks v x → DV B O s.heap s.toks u y → Gw B X (Wm X (f v u) s) (g x y) (fun t w s' => Inv X pins [] X.H_0 s' ∧ Le X s s' ∧ w = .bool t)
theorem two60 {B : Bk} {O : Addr → Prop} {h : Heap} {n : Nat} {v u : Value} {x y : D} (hx : DV B O h n v x) (hy : DV B O h n u y) (hs : (shp 60 x && shp 60 y) = true) :
    ∃ as bs, Reads h v (pd x) as ∧ Reads h u (pd y) bs ∧ SeqAt.shaped (pd x) = true ∧ SeqAt.shaped (pd y) = true := by
  rw [Bool.and_eq_true] at hs
  obtain ⟨⟨as, r1⟩, c1, d1⟩ := reads_canLay_of 60 hx hs.1
  obtain ⟨⟨bs, r2⟩, c2, d2⟩ := reads_canLay_of 60 hy hs.2
  refine ⟨as, bs, r1, r2, ?_, ?_⟩
  · unfold SeqAt.shaped
    rw [c1, decide_eq_true (by omega)]
    rfl
  · unfold SeqAt.shaped
    rw [c2, decide_eq_true (by omega)]
    rfl
theorem s2_eq (hu : X.A.units + 66 < cLine) : S2c B X (compareOp .Eq) (cmpD .eq) := by
  intro pins O N ρ s x y v u S h1 h2
  refine Gw.guard fun hs => ?_
  obtain ⟨as, bs, r1, r2, s1, s2⟩ := two60 h1 h2 hs
  rw [Bool.and_eq_true] at hs
  refine SeqAt.compareEq_shaped r1 r2 s1 s2 (by omega) ⟨S.inv, Le.refl, ?_⟩
  rw [eqv_pd x y 60 60 hs.1 hs.2]
theorem s2_ne (hu : X.A.units + 66 < cLine) : S2c B X (compareOp .NotEq) (cmpD .ne) := by
  intro pins O N ρ s x y v u S h1 h2
  show Gw B X _ ((R.guard (shp 60 x && shp 60 y) (.ok (eqB x y))).bind fun t => .ok (!t)) _
  cases hs : (shp 60 x && shp 60 y) with
  | false => exact True.intro
  | true =>
    obtain ⟨as, bs, r1, r2, s1, s2⟩ := two60 h1 h2 hs
    rw [Bool.and_eq_true] at hs
    refine SeqAt.compareNe_shaped r1 r2 s1 s2 (by omega) ⟨S.inv, Le.refl, ?_⟩
    rw [eqv_pd x y 60 60 hs.1 hs.2]
theorem can_lt {B : Bk} {O : Addr → Prop} {h : Heap} {n : Nat} {v u : Value} {x y : D} (hx : DV B O h n v x) (hy : DV B O h n u y) (hs : canLt x y = true) :
    ∃ as bs, Reads h v (pd x) as ∧ Reads h u (pd y) bs ∧ PySem.W.alike (pd x) (pd y) = true ∧ pd x ≠ .none ∧ (pd x).depth ≤ 60 ∧ alk x y = true ∧ isNone x = false ∧ shp 60 x = true ∧ shp 60 y = true := by
  unfold canLt at hs
  simp only [Bool.and_eq_true, Bool.not_eq_true'] at hs
  obtain ⟨⟨⟨q1, q2⟩, q3⟩, q4⟩ := hs
  obtain ⟨⟨as, r1⟩, c1, d1⟩ := reads_canLay_of 60 hx q3
  obtain ⟨⟨bs, r2⟩, c2, d2⟩ := reads_canLay_of 60 hy q4
  refine ⟨as, bs, r1, r2, alike_pd x y q1, ?_, d1, q1, q2, q3, q4⟩
  intro e
  cases x <;> first | (cases q2; done) | (simp [pd] at e; done) | (simp [shp] at q3)
theorem lt_end (S : Ste B X pins O N ρ s) {b b' : Bool} (e : b = b') : Inv X pins [] X.H_0 s ∧ Le X s s ∧ Value.bool b = .bool b' := ⟨S.inv, Le.refl, by rw [e]⟩
theorem s2_lt (hu : X.A.units + 66 < cLine) : S2c B X (compareOp .Lt) (cmpD .lt) := by
  intro pins O N ρ s x y v u S h1 h2
  refine Gw.guard fun hs => ?_
  obtain ⟨as, bs, r1, r2, al, nn, dp, q1, q2, q3, q4⟩ := can_lt h1 h2 hs
  exact PySem.W.rcLt_alike _ _ _ _ _ _ _ _ r1 r2 al nn (by have := Nat.min_le_left (pd x).depth (pd y).depth; omega) _ _ _ _ (lt_end S (lt_pd x y 60 60 q1 q2 q3 q4))
theorem alk_symm_of : ∀ {x y : D}, alk x y = true → isNone x = false → isNone y = false := fun {x y} h hn => by
  cases x <;> cases y <;> simp_all [alk, isNone]
mutual
theorem alk_swap : ∀ (x y : D), alk x y = alk y x
  | .none, y => by cases y <;> simp [alk]
  | .bool _, y => by cases y <;> simp [alk]
  | .int _, y => by cases y <;> simp [alk]
  | .str _, y => by cases y <;> simp [alk]
  | .list a, y => by cases y <;> first | (simp [alk]; done) | (simp only [alk]; exact alkL_swap a _)
  | .tuple a, y => by cases y <;> first | (simp [alk]; done) | (simp only [alk]; exact alkL_swap a _)
  | .dict _, y => by cases y <;> simp [alk]
  | .fn _, y => by cases y <;> simp [alk]
  | .exc _, y => by cases y <;> simp [alk]
theorem alkL_swap : ∀ (x y : List D), alkL x y = alkL y x
  | [], [] => rfl
  | [], _ :: _ => by simp [alkL]
  | _ :: _, [] => by simp [alkL]
  | a :: as, b :: bs => by simp only [alkL, alk_swap a b, alkL_swap as bs]
end
theorem s2_gt (hu : X.A.units + 66 < cLine) : S2c B X (compareOp .Gt) (cmpD .gt) := by
  intro pins O N ρ s x y v u S h1 h2
  refine Gw.guard fun hs => ?_
  obtain ⟨as, bs, r1, r2, al, nn, dp, q1, q2, q3, q4⟩ := can_lt h1 h2 hs
  exact PySem.W.rcGt_alike _ _ _ _ _ _ _ _ r1 r2 al nn (by have := Nat.min_le_left (pd x).depth (pd y).depth; omega) _ _ _ _ (lt_end S (lt_pd y x 60 60 (by rw [alk_swap]; exact q1) (alk_symm_of q1 q2) q4 q3))
theorem s2_le (hu : X.A.units + 66 < cLine) : S2c B X (compareOp .LtE) (cmpD .le) := by
  intro pins O N ρ s x y v u S h1 h2
  refine Gw.guard fun hs => ?_
  obtain ⟨as, bs, r1, r2, al, nn, dp, q1, q2, q3, q4⟩ := can_lt h1 h2 hs
  exact PySem.W.rcLe_alike _ _ _ _ _ _ _ _ r1 r2 al nn (by have := Nat.min_le_left (pd x).depth (pd y).depth; omega) _ _ _ _ (lt_end S (congrArg not (lt_pd y x 60 60 (by rw [alk_swap]; exact q1) (alk_symm_of q1 q2) q4 q3)))
theorem s2_ge (hu : X.A.units + 66 < cLine) : S2c B X (compareOp .GtE) (cmpD .ge) := by
  intro pins O N ρ s x y v u S h1 h2
  refine Gw.guard fun hs => ?_
  obtain ⟨as, bs, r1, r2, al, nn, dp, q1, q2, q3, q4⟩ := can_lt h1 h2 hs
  exact PySem.W.rcGe_alike _ _ _ _ _ _ _ _ r1 r2 al nn (by have := Nat.min_le_left (pd x).depth (pd y).depth; omega) _ _ _ _ (lt_end S (congrArg not (lt_pd x y 60 60 q1 q2 q3 q4)))
theorem any_pd {x : D} (hx : shp 59 x = true) : ∀ {l : List D}, l.all (shp 59) = true → ((pdL l).any fun y => PyData.eqv y (pd x)) = l.any fun y => eqB y x
  | [], _ => rfl
  | d :: ds, hl => by
    rw [List.all_cons, Bool.and_eq_true] at hl
    rw [pdL, List.any_cons, List.any_cons, eqv_pd d x 59 59 hl.1 hx, any_pd hx hl.2]
theorem all_reads {B : Bk} {O : Addr → Prop} {h : Heap} {n : Nat} {vs : List Value} {ds : List D} {a : Addr} {ep : Nat} (no : ¬ O a) (e : h.get? a = some { cls := .type "tuple", data := .seq vs.toArray ep }) (z : vs.length ≤ sizeLine) (r : DVs B O h n vs ds) (hl : ds.all (shp 59) = true) :
    (∃ as, ReadsAll h vs (pdL ds) as) ∧ PyData.canLayAll0 (pdL ds) = true ∧ PyData.depthAll (pdL ds) ≤ 59 := by
  obtain ⟨⟨as, q⟩, c, d⟩ := reads_canLay_of 60 (DV.tuple no e z r) hl
  simp only [pd, PyData.canLay0, PyData.depth] at c d
  simp only [pd] at q
  cases q with
  | tuple h1 h2 h3 h4 =>
    rw [e] at h1
    cases h1
    cases h3
    exact ⟨⟨_, h4⟩, c, by omega⟩
theorem s2_in (hu : X.A.units + 66 < cLine) : S2c B X (compareOp .In) (cmpD .in_) := by
  intro pins O N ρ s x y v u S h1 h2
  cases h2 with
  | str b t g z =>
    cases h1 with
    | str a t' g' z' =>
      match a, g', z' with
      | [c], _, _ =>
        refine PySem.P.in_str ⟨S.inv, Le.refl, ?_⟩
        rw [show tS [c] = ⟨#[c]⟩ from rfl, StrLaws.found_one]
        simp
      | [], _, _ => exact True.intro
      | _ :: _ :: _, _, _ => exact True.intro
    | _ => exact True.intro
  | @list _ _ _ l no e z r =>
    refine Gw.guard fun hs => ?_
    rw [Bool.and_eq_true] at hs
    obtain ⟨⟨as, r1⟩, c1, d1⟩ := reads_canLay_of 59 h1 hs.1
    obtain ⟨⟨bs, r2⟩, c2, d2⟩ := reads_canLay_of 60 (DV.list no e z r) hs.2
    simp only [pd, PyData.canLay0, PyData.depth] at c2 d2 r2
    refine SeqAt.in_list_reads r2 r1 c2 c1 (by have := Nat.min_le_right (PyData.depthAll (pdL l)) (pd x).depth; omega) ⟨S.inv, Le.refl, ?_⟩
    rw [any_pd hs.1 hs.2]
  | @tuple _ _ _ l no e z r =>
    refine Gw.guard fun hs => ?_
    rw [Bool.and_eq_true] at hs
    obtain ⟨⟨as, r1⟩, c1, d1⟩ := reads_canLay_of 59 h1 hs.1
    obtain ⟨⟨bs, r2⟩, c2, d2⟩ := reads_canLay_of 60 (DV.tuple no e z r) hs.2
    simp only [pd, PyData.canLay0, PyData.depth] at c2 d2 r2
    refine SeqAt.in_tuple_reads r2 r1 c2 c1 (by have := Nat.min_le_right (PyData.depthAll (pdL l)) (pd x).depth; omega) ⟨S.inv, Le.refl, ?_⟩
    rw [any_pd hs.1 hs.2]
  | _ => exact True.intro
theorem s2_notin (hu : X.A.units + 66 < cLine) : S2c B X (compareOp .NotIn) (cmpD .notin) := by
  intro pins O N ρ s x y v u S h1 h2
  cases h2 with
  | str b t g z =>
    cases h1 with
    | str a t' g' z' =>
      match a, g', z' with
      | [c], _, _ =>
        refine PySem.P.notIn_str ⟨S.inv, Le.refl, ?_⟩
        rw [show tS [c] = ⟨#[c]⟩ from rfl, StrLaws.found_one]
        simp
      | [], _, _ => exact True.intro
      | _ :: _ :: _, _, _ => exact True.intro
    | _ => exact True.intro
  | @list _ _ _ l no e z r =>
    show Gw B X _ ((R.guard (shp 59 x && l.all (shp 59)) (.ok (l.any fun y => eqB y x))).bind fun t => .ok (!t)) _
    cases hs : (shp 59 x && l.all (shp 59)) with
    | false => exact True.intro
    | true =>
      rw [Bool.and_eq_true] at hs
      obtain ⟨⟨as, r1⟩, c1, d1⟩ := reads_canLay_of 59 h1 hs.1
      obtain ⟨⟨bs, r2⟩, c2, d2⟩ := reads_canLay_of 60 (DV.list no e z r) hs.2
      simp only [pd, PyData.canLay0, PyData.depth] at c2 d2 r2
      refine SeqAt.notIn_list_reads r2 r1 c2 c1 (by have := Nat.min_le_right (PyData.depthAll (pdL l)) (pd x).depth; omega) ⟨S.inv, Le.refl, ?_⟩
      rw [any_pd hs.1 hs.2]
  | @tuple _ _ _ l no e z r =>
    show Gw B X _ ((R.guard (shp 59 x && l.all (shp 59)) (.ok (l.any fun y => eqB y x))).bind fun t => .ok (!t)) _
    cases hs : (shp 59 x && l.all (shp 59)) with
    | false => exact True.intro
    | true =>
      rw [Bool.and_eq_true] at hs
      obtain ⟨⟨as, r1⟩, c1, d1⟩ := reads_canLay_of 59 h1 hs.1
      obtain ⟨⟨bs, r2⟩, c2, d2⟩ := reads_canLay_of 60 (DV.tuple no e z r) hs.2
      simp only [pd, PyData.canLay0, PyData.depth] at c2 d2 r2
      refine SeqAt.notIn_tuple_reads r2 r1 c2 c1 (by have := Nat.min_le_right (PyData.depthAll (pdL l)) (pd x).depth; omega) ⟨S.inv, Le.refl, ?_⟩
      rw [any_pd hs.1 hs.2]
  | _ => exact True.intro
theorem s2_is : S2c B X (compareOp .Is) (cmpD .is) := by
  intro pins O N ρ s x y v u S h1 h2
  cases h2 with
  | none =>
    cases h1 <;> exact is_none_gen ⟨S.inv, Le.refl, rfl⟩
  | bool b =>
    cases h1 with
    | bool a => exact is_bool ⟨S.inv, Le.refl, rfl⟩
    | fn f => exact True.intro
    | exc no e c => exact True.intro
    | _ => exact wpAny_pure ⟨S.inv, Le.refl, rfl⟩
  | _ => cases h1 <;> exact True.intro
theorem s2_isnot : S2c B X (compareOp .IsNot) (cmpD .isnot) := by
  intro pins O N ρ s x y v u S h1 h2
  cases h2 with
  | none =>
    cases h1 <;> exact isnot_none_gen ⟨S.inv, Le.refl, rfl⟩
  | bool b =>
    cases h1 with
    | bool a => exact isnot_bool ⟨S.inv, Le.refl, rfl⟩
    | fn f => exact True.intro
    | exc no e c => exact True.intro
    | _ => exact wpAny_pure ⟨S.inv, Le.refl, rfl⟩
  | _ => cases h1 <;> exact True.intro
def cOp : Cop → CmpOp
  | .eq => .Eq
  | .ne => .NotEq
  | .lt => .Lt
  | .le => .LtE
  | .gt => .Gt
  | .ge => .GtE
  | .is => .Is
  | .isnot => .IsNot
  | .in_ => .In
  | .notin => .NotIn
theorem s2_cmp (hu : X.A.units + 66 < cLine) : ∀ o : Cop, S2c B X (compareOp (cOp o)) (cmpD o)
  | .eq => s2_eq hu
  | .ne => s2_ne hu
  | .lt => s2_lt hu
  | .le => s2_le hu
  | .gt => s2_gt hu
  | .ge => s2_ge hu
  | .is => s2_is
  | .isnot => s2_isnot
  | .in_ => s2_in hu
  | .notin => s2_notin hu
def bOp : Bop → Operator
  | .add => .Add
  | .sub => .Sub
  | .mul => .Mult
  | .mod => .Mod
  | .fdiv => .FloorDiv
  | .pow => .Pow
  | .shl => .LShift
theorem s2_bin : ∀ o : Bop, S2 B X (binaryOp (bOp o)) (binD o)
  | .add => s2_add
  | .sub => s2_sub
  | .mul => s2_mul
  | .mod => s2_mod
  | .fdiv => s2_fdiv
  | .pow => s2_pow
  | .shl => s2_shl
theorem se_bin {a b : Expr} {xa xb : Ev.X} {o : Bop} (ha : SE B X N F a xa) (hb : SE B X N F b xb) : SE B X N F (.BinOp a (bOp o) b pos) (.bin o xa xb) := fun pins O ρ s S =>
  se_two ha hb (s2_bin o) (fun s Q h => wpAny_BinOp h) S
theorem S2c.val {f : Value → Value → Sem Value} {g : D → D → R Bool} (h : S2c B X f g) : S2 B X f (fun x y => (g x y).bind fun t => .ok (.bool t)) := by
  intro pins O N ρ s x y v u S h1 h2
  have q := h pins O N ρ s x y v u S h1 h2
  show Gw B X _ ((g x y).bind fun t => .ok (D.bool t)) _
  cases e : g x y with
  | ok t =>
    rw [e] at q
    refine thn q fun w s' p => ⟨p.1, p.2.1, ?_⟩
    rw [p.2.2]
    exact .bool t
  | err c =>
    rw [e] at q
    exact q
  | stuck => trivial
theorem se_cmp {a b : Expr} {xa xb : Ev.X} {o : Cop} (hu : X.A.units + 66 < cLine) (ha : SE B X N F a xa) (hb : SE B X N F b xb) (hm : behindInMarks (cOp o) b = false) : SE B X N F (.Compare a [cOp o] [b] pos) (.cmp o xa xb) := fun pins O ρ s S =>
  se_two ha hb (s2_cmp hu o).val (fun s Q h => wpAny_Compare1 h hm) S
/-- a test that is a comparison -/
theorem st_cmp {a b : Expr} {xa xb : Ev.X} {o : Cop} (hu : X.A.units + 66 < cLine) (ha : SE B X N F a xa) (hb : SE B X N F b xb) (hm : behindInMarks (cOp o) b = false) : ST B X N F (.Compare a [cOp o] [b] pos) (.cmp o xa xb) := by
  intro pins O ρ s S
  have e : (ev F ρ (.cmp o xa xb)).bind truth = (ev F ρ xa).bind fun x => (ev F ρ xb).bind fun y => cmpD o x y := by
    show ((ev F ρ xa).bind fun x => (ev F ρ xb).bind fun y => (cmpD o x y).bind fun t => .ok (D.bool t)).bind truth = _
    cases ev F ρ xa with
    | ok x =>
      show ((ev F ρ xb).bind fun y => (cmpD o x y).bind fun t => .ok (D.bool t)).bind truth = (ev F ρ xb).bind fun y => cmpD o x y
      cases ev F ρ xb with
      | ok y =>
        show ((cmpD o x y).bind fun t => .ok (D.bool t)).bind truth = cmpD o x y
        cases cmpD o x y <;> rfl
      | err c => rfl
      | stuck => rfl
    | err c => rfl
    | stuck => rfl
  rw [e]
  refine Gw.bind (K := fun v s1 Q => wpAny (model X.prog X.w) X.A (eval b X.env) (fun u s2 => wpAny (model X.prog X.w) X.A (compareOp (cOp o) v u) (fun c s3 => wpAny (model X.prog X.w) X.A (truthy c) Q X.xe s3) X.xe s2) X.xe s1) wm_mono (fun Q hq => wpAny_isTrue_Compare1 hq hm) (ha pins O ρ s S) fun x v s1 _ p => ?_
  have S1 := S.step p.1 p.2.1
  refine Gw.bind (W1 := Wm X (eval b X.env) s1) (K := fun u s2 Q => wpAny (model X.prog X.w) X.A (compareOp (cOp o) v u) (fun c s3 => wpAny (model X.prog X.w) X.A (truthy c) Q X.xe s3) X.xe s2) wm_mono (fun Q hq => hq) (hb pins O ρ s1 S1) fun y u s2 _ p2 => ?_
  have q := s2_cmp (B := B) hu o pins O N ρ s2 x y v u (S1.step p2.1 p2.2.1) (p2.2.1.dat S.fr p.2.2) p2.2.2
  cases e : cmpD o x y with
  | ok t =>
    rw [e] at q
    refine thn q fun w s' z => ?_
    rw [z.2.2]
    exact wpAny_truthy_bool ⟨z.1, (p.2.1.trans p2.2.1).trans z.2.1, rfl⟩
  | err c =>
    rw [e] at q
    exact fun hx => thn (q hx) fun _ _ z => z.elim
  | stuck => trivial
theorem tru (S : Ste B X pins O N ρ s) {v : Value} {d : D} (h : DV B O s.heap s.toks v d) : Gw B X (Wm X (truthy v) s) (truth d) (Pt X pins s) := by
  have hl := line63
  have hs : sizeLine = 16777216 := sizeLine_eq
  cases h with
  | none => exact truthy_none ⟨S.inv, Le.refl, rfl⟩
  | bool b => exact wpAny_truthy_bool ⟨S.inv, Le.refl, rfl⟩
  | int i t => exact PySem.P.truthy_int ⟨S.inv, Le.refl, rfl⟩
  | str l t g z =>
    refine PySem.P.truthy_str (by rw [tS_len]; omega) ⟨S.inv.tok _, Le.kept (fun _ _ e => e) (by omega), ?_⟩
    rw [tS_len]
    cases l <;> rfl
  | list no e z r =>
    refine wpAny_truthy_list ⟨_, e, rfl, _, rfl⟩ (by simp only [List.size_toArray]; omega) ⟨S.inv.tok _, Le.kept (fun _ _ e => e) (by omega), ?_⟩
    cases r <;> simp
  | tuple no e z r =>
    refine truthy_tuple ⟨_, e, rfl, _, rfl⟩ (by simp only [List.size_toArray]; omega) ⟨S.inv.tok _, Le.kept (fun _ _ e => e) (by omega), ?_⟩
    cases r <;> simp
  | fn f => exact True.intro
  | exc no e c => exact True.intro
/-- any expression whose test is its value's truth -/
theorem st_val {e : Expr} {x : Ev.X} (h : SE B X N F e x) (he : ∀ whole, isTrue e X.env whole = (do let v ← whole; standAt e.pos; holding [v] (truthy v))) : ST B X N F e x := fun pins O ρ s S =>
  Gw.bind (K := fun v s1 Q => wpAny (model X.prog X.w) X.A (truthy v) Q X.xe s1) wm_mono (fun Q hq => isTrue_plain hq (he _)) (h pins O ρ s S) fun d v s1 _ p =>
    (tru (S.step p.1 p.2.1) p.2.2).mono wm_mono fun _ _ _ q => q.later p.2.1
end
end Ev
namespace Ev
open PySem PySem.Spec PyProof.Rows L2
section
variable {B : Bk} {X : Cx} {N : List Str} {F : Fx} {pins : List (Addr × Obj)} {O : Addr → Prop} {ρ : List Sl} {s : Shared} {pos : Pos} {a b c e : Expr} {rest : List Expr} {xa xb xc x : Ev.X}
theorem STw.st (h : STw B X N F e x) : ST B X N F e x := fun pins O ρ s S => h _ pins O ρ s S
theorem se_one {op : BoolOp} (h : SE B X N F a xa) : SE B X N F (.BoolOp op [a] pos) xa := fun pins O ρ s S => Gw.rule (fun Q hq => BoolOp_one hq) (h pins O ρ s S)
/-- behind the truth of a value -/
theorem tru_then {γ δ : Type} {W2 : (γ → Shared → Prop) → Prop} {v : Value} {d : D} {K : Bool → Shared → (γ → Shared → Prop) → Prop} {f : Bool → R δ} {Q2 : δ → γ → Shared → Prop} (S : Ste B X pins O N ρ s) (h : DV B O s.heap s.toks v d)
    (rule : ∀ Q, wpAny (model X.prog X.w) X.A (truthy v) (fun t s1 => K t s1 Q) X.xe s → W2 Q) (k : ∀ t s1, Inv X pins [] X.H_0 s1 → Le X s s1 → Gw B X (K t s1) (f t) Q2) : Gw B X W2 ((truth d).bind f) Q2 :=
  Gw.bind wm_mono rule (tru S h) fun t t' s1 _ p => by
    obtain ⟨p1, p2, p3⟩ := p
    subst p3
    exact k _ s1 p1 p2
theorem se_and (ha : SE B X N F a xa) (hb : SE B X N F (.BoolOp .And (b :: rest) pos) xb) : SE B X N F (.BoolOp .And (a :: b :: rest) pos) (.and_ xa xb) := by
  intro pins O ρ s S
  refine Gw.bind (K := fun v s1 Q => wpAny (model X.prog X.w) X.A (truthy v) (fun t s2 => if t = true then wpAny (model X.prog X.w) X.A (eval (.BoolOp .And (b :: rest) pos) X.env) Q X.xe s2 else Q v s2) X.xe s1) wm_mono (fun Q hq => BoolOp_and hq) (ha pins O ρ s S) fun d v s1 _ p => ?_
  have S1 := S.step p.1 p.2.1
  refine tru_then (K := fun t s2 Q => if t = true then wpAny (model X.prog X.w) X.A (eval (.BoolOp .And (b :: rest) pos) X.env) Q X.xe s2 else Q v s2) S1 p.2.2 (fun Q hq => hq) fun t s2 I2 l2 => ?_
  cases t with
  | true => exact Gw.rule (W := Wm X (eval (.BoolOp .And (b :: rest) pos) X.env) s2) (fun Q hq => hq) ((hb pins O ρ s2 (S1.step I2 l2)).later wm_mono (p.2.1.trans l2))
  | false => exact ⟨I2, p.2.1.trans l2, l2.dat S.fr p.2.2⟩
theorem se_or (ha : SE B X N F a xa) (hb : SE B X N F (.BoolOp .Or (b :: rest) pos) xb) : SE B X N F (.BoolOp .Or (a :: b :: rest) pos) (.or_ xa xb) := by
  intro pins O ρ s S
  refine Gw.bind (K := fun v s1 Q => wpAny (model X.prog X.w) X.A (truthy v) (fun t s2 => if t = true then Q v s2 else wpAny (model X.prog X.w) X.A (eval (.BoolOp .Or (b :: rest) pos) X.env) Q X.xe s2) X.xe s1) wm_mono (fun Q hq => BoolOp_or hq) (ha pins O ρ s S) fun d v s1 _ p => ?_
  have S1 := S.step p.1 p.2.1
  refine tru_then (K := fun t s2 Q => if t = true then Q v s2 else wpAny (model X.prog X.w) X.A (eval (.BoolOp .Or (b :: rest) pos) X.env) Q X.xe s2) S1 p.2.2 (fun Q hq => hq) fun t s2 I2 l2 => ?_
  cases t with
  | true => exact ⟨I2, p.2.1.trans l2, l2.dat S.fr p.2.2⟩
  | false => exact Gw.rule (W := Wm X (eval (.BoolOp .Or (b :: rest) pos) X.env) s2) (fun Q hq => hq) ((hb pins O ρ s2 (S1.step I2 l2)).later wm_mono (p.2.1.trans l2))
theorem se_not (ha : SE B X N F a xa) : SE B X N F (.UnaryOp .Not a pos) (.not_ xa) := by
  intro pins O ρ s S
  refine Gw.bind (K := fun v s1 Q => wpAny (model X.prog X.w) X.A (unaryOp .Not v) Q X.xe s1) wm_mono (fun Q hq => UnaryOp_ hq) (ha pins O ρ s S) fun d v s1 _ p => ?_
  refine tru_then (K := fun t s2 Q => Q (.bool (!t)) s2) (S.step p.1 p.2.1) p.2.2 (fun Q hq => not_of hq) fun t s2 I2 l2 => ?_
  exact ⟨I2, p.2.1.trans l2, .bool _⟩
theorem se_neg (ha : SE B X N F a xa) : SE B X N F (.UnaryOp .USub a pos) (.neg xa) := by
  intro pins O ρ s S
  refine Gw.bind (K := fun v s1 Q => wpAny (model X.prog X.w) X.A (unaryOp .USub v) Q X.xe s1) wm_mono (fun Q hq => UnaryOp_ hq) (ha pins O ρ s S) fun d v s1 _ p => ?_
  have S1 := S.step p.1 p.2.1
  cases p.2.2 with
  | int i t => exact neg_int ((pst_int S1 (Nat.le_succ _)).later p.2.1)
  | _ => exact True.intro
theorem truth_and (r : R D) (q : R D) : ((r.bind fun x => (truth x).bind fun t => match t with | true => q | false => R.ok x).bind truth) = (r.bind truth).bind fun t => match t with | true => q.bind truth | false => .ok false := by
  cases r with
  | ok x =>
    show ((truth x).bind fun t => match t with | true => q | false => R.ok x).bind truth = (truth x).bind fun t => match t with | true => q.bind truth | false => .ok false
    cases e : truth x with
    | ok t =>
      cases t with
      | true => rfl
      | false =>
        show truth x = _
        rw [e]
        rfl
    | err c => rfl
    | stuck => rfl
  | err c => rfl
  | stuck => rfl
theorem truth_or (r : R D) (q : R D) : ((r.bind fun x => (truth x).bind fun t => match t with | true => R.ok x | false => q).bind truth) = (r.bind truth).bind fun t => match t with | true => .ok true | false => q.bind truth := by
  cases r with
  | ok x =>
    show ((truth x).bind fun t => match t with | true => R.ok x | false => q).bind truth = (truth x).bind fun t => match t with | true => .ok true | false => q.bind truth
    cases e : truth x with
    | ok t =>
      cases t with
      | true =>
        show truth x = _
        rw [e]
        rfl
      | false => rfl
    | err c => rfl
    | stuck => rfl
  | err c => rfl
  | stuck => rfl
theorem truth_not (r : R D) : ((r.bind fun x => (truth x).bind fun t => R.ok (.bool (!t))).bind truth) = (r.bind truth).bind fun t => .ok (!t) := by
  cases r with
  | ok x =>
    show ((truth x).bind fun t => R.ok (.bool (!t))).bind truth = (truth x).bind fun t => .ok (!t)
    cases truth x <;> rfl
  | err c => rfl
  | stuck => rfl
theorem stw_and1 (ha : ST B X N F a xa) : STw B X N F (.BoolOp .And [a] pos) xa := by
  intro wh pins O ρ s S
  refine Gw.rule (W := Wm X (isTrue a X.env (eval a X.env)) s) (fun Q hq => isTrue_and (thn hq fun c s1 e => ?_)) (ha pins O ρ s S)
  cases c with
  | true => exact isTrue_and_nil e
  | false => exact e
theorem stw_or1 (ha : ST B X N F a xa) : STw B X N F (.BoolOp .Or [a] pos) xa := by
  intro wh pins O ρ s S
  refine Gw.rule (W := Wm X (isTrue a X.env (eval a X.env)) s) (fun Q hq => isTrue_or (thn hq fun c s1 e => ?_)) (ha pins O ρ s S)
  cases c with
  | false => exact isTrue_or_nil e
  | true => exact e
theorem stw_and (ha : ST B X N F a xa) (hb : STw B X N F (.BoolOp .And (b :: rest) pos) xb) : STw B X N F (.BoolOp .And (a :: b :: rest) pos) (.and_ xa xb) := by
  intro wh pins O ρ s S
  rw [show ev F ρ (.and_ xa xb) = (ev F ρ xa).bind fun x => (truth x).bind fun t => match t with | true => ev F ρ xb | false => .ok x from rfl, truth_and]
  refine Gw.bind (W1 := Wm X (isTrue a X.env (eval a X.env)) s) (K := fun t s1 Q => if t = true then wpAny (model X.prog X.w) X.A (isTrue (.BoolOp .And (b :: rest) pos) X.env wh) Q X.xe s1 else Q false s1) wm_mono (fun Q hq => isTrue_and (thn hq fun c s1 e => ?_)) (ha pins O ρ s S) fun t t' s1 _ p => ?_
  · cases c with
    | true => exact e
    | false => exact e
  · obtain ⟨p1, p2, p3⟩ := p
    subst p3
    cases t' with
    | true => exact Gw.rule (W := Wm X (isTrue (.BoolOp .And (b :: rest) pos) X.env wh) s1) (fun Q hq => hq) ((hb wh pins O ρ s1 (S.step p1 p2)).mono wm_mono fun _ _ _ q => q.later p2)
    | false => exact ⟨p1, p2, rfl⟩
theorem stw_or (ha : ST B X N F a xa) (hb : STw B X N F (.BoolOp .Or (b :: rest) pos) xb) : STw B X N F (.BoolOp .Or (a :: b :: rest) pos) (.or_ xa xb) := by
  intro wh pins O ρ s S
  rw [show ev F ρ (.or_ xa xb) = (ev F ρ xa).bind fun x => (truth x).bind fun t => match t with | true => .ok x | false => ev F ρ xb from rfl, truth_or]
  refine Gw.bind (W1 := Wm X (isTrue a X.env (eval a X.env)) s) (K := fun t s1 Q => if t = true then Q true s1 else wpAny (model X.prog X.w) X.A (isTrue (.BoolOp .Or (b :: rest) pos) X.env wh) Q X.xe s1) wm_mono (fun Q hq => isTrue_or (thn hq fun c s1 e => ?_)) (ha pins O ρ s S) fun t t' s1 _ p => ?_
  · cases c with
    | true => exact e
    | false => exact e
  · obtain ⟨p1, p2, p3⟩ := p
    subst p3
    cases t' with
    | false => exact Gw.rule (W := Wm X (isTrue (.BoolOp .Or (b :: rest) pos) X.env wh) s1) (fun Q hq => hq) ((hb wh pins O ρ s1 (S.step p1 p2)).mono wm_mono fun _ _ _ q => q.later p2)
    | true => exact ⟨p1, p2, rfl⟩
theorem st_not (ha : ST B X N F a xa) : ST B X N F (.UnaryOp .Not a pos) (.not_ xa) := by
  intro pins O ρ s S
  rw [show ev F ρ (.not_ xa) = (ev F ρ xa).bind fun x => (truth x).bind fun t => .ok (.bool (!t)) from rfl, truth_not]
  refine Gw.bind (W1 := Wm X (isTrue a X.env (eval a X.env)) s) (K := fun t s1 Q => Q (!t) s1) wm_mono (fun Q hq => isTrue_not hq) (ha pins O ρ s S) fun t t' s1 _ p => ?_
  obtain ⟨p1, p2, p3⟩ := p
  subst p3
  exact ⟨p1, p2, rfl⟩
theorem bind_assoc {α β γ : Type} (r : R α) (f : α → R β) (g : β → R γ) : (r.bind f).bind g = r.bind fun a => (f a).bind g := by cases r <;> rfl
theorem se_ite (hc : ST B X N F c xc) (ha : SE B X N F a xa) (hb : SE B X N F b xb) : SE B X N F (.IfExp c a b pos) (.ite xc xa xb) := by
  intro pins O ρ s S
  rw [show ev F ρ (.ite xc xa xb) = (ev F ρ xc).bind fun x => (truth x).bind fun t => match t with | true => ev F ρ xa | false => ev F ρ xb from rfl, ← bind_assoc]
  refine Gw.bind (W1 := Wm X (isTrue c X.env (eval c X.env)) s) (K := fun t s1 Q => if t = true then wpAny (model X.prog X.w) X.A (eval a X.env) Q X.xe s1 else wpAny (model X.prog X.w) X.A (eval b X.env) Q X.xe s1) wm_mono (fun Q hq => wpAny_IfExp (thn hq fun d s1 e => ?_)) (hc pins O ρ s S) fun t t' s1 _ p => ?_
  · cases d with
    | true => exact e
    | false => exact e
  · obtain ⟨p1, p2, p3⟩ := p
    subst p3
    cases t' with
    | true => exact Gw.rule (W := Wm X (eval a X.env) s1) (fun Q hq => hq) ((ha pins O ρ s1 (S.step p1 p2)).later wm_mono p2)
    | false => exact Gw.rule (W := Wm X (eval b X.env) s1) (fun Q hq => hq) ((hb pins O ρ s1 (S.step p1 p2)).later wm_mono p2)
/-- a o b o2 c -/
theorem se_chain {o o2 : Cop} (hu : X.A.units + 66 < cLine) (ha : SE B X N F a xa) (hb : SE B X N F b xb) (hc : SE B X N F c xc) (hm : lastMarks [cOp o, cOp o2] [b, c] = false) : SE B X N F (.Compare a [cOp o, cOp o2] [b, c] pos) (.chain o o2 xa xb xc) := by
  intro pins O ρ s S
  refine Gw.bind (K := fun v s1 Q => wpAny (model X.prog X.w) X.A (eval b X.env) (fun u s2 => wpAny (model X.prog X.w) X.A (compareOp (cOp o) v u) (fun d s3 => wpAny (model X.prog X.w) X.A (truthy d) (fun t s4 => if t = true then wpAny (model X.prog X.w) X.A (eval c X.env) (fun w s5 => wpAny (model X.prog X.w) X.A (compareOp (cOp o2) u w) Q X.xe s5) X.xe s4 else Q d s4) X.xe s3) X.xe s2) X.xe s1)
    wm_mono (fun Q hq => Compare_chain (thn hq fun v s1 h1 => chain_link (thn h1 fun u s2 h2 => thn h2 fun d s3 h3 => thn h3 fun t s4 h4 => ?_)) hm) (ha pins O ρ s S) fun x v s1 _ p => ?_
  · cases t with
    | true => exact ite_tt (chain_last (thn h4 fun w s5 h5 => h5))
    | false => exact ite_ff h4
  have S1 := S.step p.1 p.2.1
  refine Gw.bind (W1 := Wm X (eval b X.env) s1) (K := fun u s2 Q => wpAny (model X.prog X.w) X.A (compareOp (cOp o) v u) (fun d s3 => wpAny (model X.prog X.w) X.A (truthy d) (fun t s4 => if t = true then wpAny (model X.prog X.w) X.A (eval c X.env) (fun w s5 => wpAny (model X.prog X.w) X.A (compareOp (cOp o2) u w) Q X.xe s5) X.xe s4 else Q d s4) X.xe s3) X.xe s2) wm_mono (fun Q hq => hq) (hb pins O ρ s1 S1) fun y u s2 _ p2 => ?_
  have S2 := S1.step p2.1 p2.2.1
  refine Gw.bind (W1 := Wm X (compareOp (cOp o) v u) s2) (K := fun d s3 Q => wpAny (model X.prog X.w) X.A (truthy d) (fun t s4 => if t = true then wpAny (model X.prog X.w) X.A (eval c X.env) (fun w s5 => wpAny (model X.prog X.w) X.A (compareOp (cOp o2) u w) Q X.xe s5) X.xe s4 else Q d s4) X.xe s3) wm_mono (fun Q hq => hq)
    (s2_cmp (B := B) hu o pins O N ρ s2 x y v u S2 (p2.2.1.dat S.fr p.2.2) p2.2.2) fun t d s3 _ p3 => ?_
  obtain ⟨q1, q2, q3⟩ := p3
  subst q3
  have l3 := (p.2.1.trans p2.2.1).trans q2
  have S3 := S2.step q1 q2
  cases t with
  | false => exact wpAny_truthy_bool ⟨q1, l3, .bool false⟩
  | true =>
    refine Gw.rule (W := fun Q => wpAny (model X.prog X.w) X.A (eval c X.env) (fun w s5 => wpAny (model X.prog X.w) X.A (compareOp (cOp o2) u w) Q X.xe s5) X.xe s3) (fun Q hq => wpAny_truthy_bool hq) ?_
    refine Gw.bind (W1 := Wm X (eval c X.env) s3) (K := fun w s5 Q => wpAny (model X.prog X.w) X.A (compareOp (cOp o2) u w) Q X.xe s5) wm_mono (fun Q hq => hq) (hc pins O ρ s3 S3) fun z w s4 _ p4 => ?_
    exact ((s2_cmp (B := B) hu o2).val pins O N ρ s4 y z u w (S3.step p4.1 p4.2.1) (p4.2.1.dat S.fr (q2.dat S.fr p2.2.2)) p4.2.2).later wm_mono (l3.trans p4.2.1)
end
end Ev
namespace Ev
open PySem PySem.Spec PyProof.Rows L2
section
variable {B : Bk} {X : Cx} {N : List Str} {F : Fx} {pins : List (Addr × Obj)} {O : Addr → Prop} {ρ : List Sl} {s : Shared} {pos : Pos} {a b c e : Expr} {rest : List Expr} {xa xb xc x : Ev.X}
theorem truth_chain {α : Type} (r1 r2 : R D) (g : D → D → R Bool) (r3 : R D) (g2 : D → D → R Bool) :
    ((r1.bind fun x => r2.bind fun y => (g x y).bind fun t => match t with | true => r3.bind fun z => (g2 y z).bind fun t2 => R.ok (D.bool t2) | false => R.ok (D.bool false)).bind truth) =
    r1.bind fun x => r2.bind fun y => (g x y).bind fun t => match t with | true => r3.bind fun z => g2 y z | false => R.ok false := by
  cases r1 with
  | ok x =>
    cases r2 with
    | ok y =>
      show ((g x y).bind fun t => match t with | true => r3.bind fun z => (g2 y z).bind fun t2 => R.ok (D.bool t2) | false => R.ok (D.bool false)).bind truth = (g x y).bind fun t => match t with | true => r3.bind fun z => g2 y z | false => R.ok false
      cases g x y with
      | ok t =>
        cases t with
        | true =>
          show (r3.bind fun z => (g2 y z).bind fun t2 => R.ok (D.bool t2)).bind truth = r3.bind fun z => g2 y z
          cases r3 with
          | ok z =>
            show ((g2 y z).bind fun t2 => R.ok (D.bool t2)).bind truth = g2 y z
            cases g2 y z <;> rfl
          | err c => rfl
          | stuck => rfl
        | false => rfl
      | err c => rfl
      | stuck => rfl
    | err c => rfl
    | stuck => rfl
  | err c => rfl
  | stuck => rfl
theorem st_chain {o o2 : Cop} (hu : X.A.units + 66 < cLine) (ha : SE B X N F a xa) (hb : SE B X N F b xb) (hc : SE B X N F c xc) (hm : lastMarks [cOp o, cOp o2] [b, c] = false) : ST B X N F (.Compare a [cOp o, cOp o2] [b, c] pos) (.chain o o2 xa xb xc) := by
  intro pins O ρ s S
  have e := truth_chain (α := D) (ev F ρ xa) (ev F ρ xb) (cmpD o) (ev F ρ xc) (cmpD o2)
  rw [show (ev F ρ (.chain o o2 xa xb xc)).bind truth = _ from e]
  refine Gw.bind (K := fun v s1 Q => wpAny (model X.prog X.w) X.A (eval b X.env) (fun u s2 => wpAny (model X.prog X.w) X.A (compareOp (cOp o) v u) (fun d s3 => wpAny (model X.prog X.w) X.A (truthy d) (fun t s4 => if t = true then wpAny (model X.prog X.w) X.A (eval c X.env) (fun w s5 => wpAny (model X.prog X.w) X.A (compareOp (cOp o2) u w) (fun d2 s6 => wpAny (model X.prog X.w) X.A (truthy d2) Q X.xe s6) X.xe s5) X.xe s4 else Q false s4) X.xe s3) X.xe s2) X.xe s1)
    wm_mono (fun Q hq => isTrue_chain (thn hq fun v s1 h1 => test_link (thn h1 fun u s2 h2 => thn h2 fun d s3 h3 => thn h3 fun t s4 h4 => ?_)) hm) (ha pins O ρ s S) fun x v s1 _ p => ?_
  · cases t with
    | true => exact ite_tt (test_last (thn h4 fun w s5 h5 => thn h5 fun d2 s6 h6 => h6))
    | false => exact ite_ff h4
  have S1 := S.step p.1 p.2.1
  refine Gw.bind (W1 := Wm X (eval b X.env) s1) (K := fun u s2 Q => wpAny (model X.prog X.w) X.A (compareOp (cOp o) v u) (fun d s3 => wpAny (model X.prog X.w) X.A (truthy d) (fun t s4 => if t = true then wpAny (model X.prog X.w) X.A (eval c X.env) (fun w s5 => wpAny (model X.prog X.w) X.A (compareOp (cOp o2) u w) (fun d2 s6 => wpAny (model X.prog X.w) X.A (truthy d2) Q X.xe s6) X.xe s5) X.xe s4 else Q false s4) X.xe s3) X.xe s2) wm_mono (fun Q hq => hq) (hb pins O ρ s1 S1) fun y u s2 _ p2 => ?_
  have S2 := S1.step p2.1 p2.2.1
  refine Gw.bind (W1 := Wm X (compareOp (cOp o) v u) s2) (K := fun d s3 Q => wpAny (model X.prog X.w) X.A (truthy d) (fun t s4 => if t = true then wpAny (model X.prog X.w) X.A (eval c X.env) (fun w s5 => wpAny (model X.prog X.w) X.A (compareOp (cOp o2) u w) (fun d2 s6 => wpAny (model X.prog X.w) X.A (truthy d2) Q X.xe s6) X.xe s5) X.xe s4 else Q false s4) X.xe s3) wm_mono (fun Q hq => hq)
    (s2_cmp (B := B) hu o pins O N ρ s2 x y v u S2 (p2.2.1.dat S.fr p.2.2) p2.2.2) fun t d s3 _ p3 => ?_
  obtain ⟨q1, q2, q3⟩ := p3
  subst q3
  have l3 := (p.2.1.trans p2.2.1).trans q2
  have S3 := S2.step q1 q2
  cases t with
  | false => exact wpAny_truthy_bool ⟨q1, l3, rfl⟩
  | true =>
    refine Gw.rule (W := fun Q => wpAny (model X.prog X.w) X.A (eval c X.env) (fun w s5 => wpAny (model X.prog X.w) X.A (compareOp (cOp o2) u w) (fun d2 s6 => wpAny (model X.prog X.w) X.A (truthy d2) Q X.xe s6) X.xe s5) X.xe s3) (fun Q hq => wpAny_truthy_bool hq) ?_
    refine Gw.bind (W1 := Wm X (eval c X.env) s3) (K := fun w s5 Q => wpAny (model X.prog X.w) X.A (compareOp (cOp o2) u w) (fun d2 s6 => wpAny (model X.prog X.w) X.A (truthy d2) Q X.xe s6) X.xe s5) wm_mono (fun Q hq => hq) (hc pins O ρ s3 S3) fun z w s4 _ p4 => ?_
    have q := s2_cmp (B := B) hu o2 pins O N ρ s4 y z u w (S3.step p4.1 p4.2.1) (p4.2.1.dat S.fr (q2.dat S.fr p2.2.2)) p4.2.2
    cases e : cmpD o2 y z with
    | ok t =>
      rw [e] at q
      refine thn q fun w s' z => ?_
      rw [z.2.2]
      exact wpAny_truthy_bool ⟨z.1, (l3.trans p4.2.1).trans z.2.1, rfl⟩
    | err c =>
      rw [e] at q
      exact fun hx => thn (q hx) fun _ _ z => z.elim
    | stuck => trivial

theorem at_eq {α : Type} (l : List α) (i : Int) : Ev.atI l i = L2.atI l i := by
  unfold Ev.atI L2.atI ixN
  by_cases h : 0 ≤ i
  · rw [if_pos h, if_pos h]
    by_cases h2 : i < l.length
    · rw [if_pos h2]
      rfl
    · rw [if_neg h2]
      exact List.getElem?_eq_none_iff.mpr (by omega)
  · rw [if_neg h, if_neg h]
    by_cases h2 : -(l.length : Int) ≤ i
    · rw [if_pos h2, if_pos (by omega)]
      rfl
    · rw [if_neg h2, if_neg (by omega)]
      rfl
theorem sub_ok {value slice : Expr} (S : Ste B X pins O N ρ s) {x y : D} {v u : Value} (h1 : DV B O s.heap s.toks v x) (h2 : DV B O s.heap s.toks u y) (hs : subscripted slice false v u = operate [v, u] (getItem v u)) :
    Gw B X (Wm X (subscriptTail value slice v u) s) (subD x y) (Pst B X pins O s) := by
  have hn := line63
  cases h1 with
  | @list ad its ep ds no e z r =>
    cases h2 with
    | int i t =>
      show Gw B X _ (ofO (Ev.atI ds i)) _
      rw [at_eq]
      cases he : L2.atI ds i with
      | none => exact True.intro
      | some d =>
        obtain ⟨j, q1, q2, q3, q4, q5⟩ := atI_get he
        obtain ⟨w, ew, dw⟩ := r.get q2
        have hl := r.length
        have fin : Pst B X pins O s d w s := pst_now S dw
        by_cases h0 : 0 ≤ i
        · have hj : i.toNat = j := by
            rw [seqIndex_of h0 q5] at q1
            exact Option.some.inj q1
          exact item_listR ⟨_, e, rfl, _, rfl⟩ h0 (by omega) (by rw [hj]; simpa using ew) fin hs
        · have hj : (i + (its.toArray.size : Int)).toNat = j := by
            rw [seqIndex_neg (by omega) q4] at q1
            rw [List.size_toArray, hl]
            exact Option.some.inj q1
          exact subscriptTail_builtinR (x := w) (Heap.IsList.typeIs ⟨_, e, rfl, _, rfl⟩) slot_list_getitem.lookup
            (wpAny_getItem_list_neg (Q := fun r s' => r = w ∧ Pst B X pins O s d r s') ⟨_, e, rfl, _, rfl⟩ (by omega) (by rw [List.size_toArray] <;> omega) (by omega) (by rw [hj]; simpa using ew) ⟨rfl, fin⟩) hs
    | _ => exact True.intro
  | @tuple ad its ep ds no e z r =>
    cases h2 with
    | int i t =>
      show Gw B X _ (ofO (Ev.atI ds i)) _
      rw [at_eq]
      cases he : L2.atI ds i with
      | none => exact True.intro
      | some d =>
        obtain ⟨j, q1, q2, q3, q4, q5⟩ := atI_get he
        obtain ⟨w, ew, dw⟩ := r.get q2
        have hl := r.length
        have fin : Pst B X pins O s d w s := pst_now S dw
        have pl : IsTup s.heap ad its.toArray := ⟨_, e, rfl, _, rfl⟩
        exact subscriptTail_builtinR (x := w) pl.typeIs slot_tuple_getitem.lookup
          (getItem_tuple (j := j) (Q := fun r s' => r = w ∧ Pst B X pins O s d r s') pl (by omega) (by omega) (by rw [List.size_toArray, hl]; exact q1) (by simpa using ew) ⟨rfl, fin⟩) hs
    | _ => exact True.intro
  | str l t g z =>
    cases h2 with
    | int i t' =>
      show Gw B X _ ((ofO (Ev.atI l i)).bind fun c => .ok (D.str [c])) _
      rw [at_eq]
      cases he : L2.atI l i with
      | none => exact True.intro
      | some c =>
        obtain ⟨j, q1, q2, q3, q4, q5⟩ := atI_get he
        have hz1 := z.1
        refine tail_any (typeIs_str s (tS l) t) slot_str_getitem.lookup (PySem.P.getItem_str (c := c) (by
          have e1 : decide (i < -(2 ^ 63 : Int)) = false := decide_eq_false (by omega)
          have e2 : decide (i ≥ 2 ^ 63) = false := decide_eq_false (by omega)
          rw [e1, e2, Bool.or_false]) (by rw [tS_len, q1]; simpa using q2) ?_) hs
        exact pst_tok S (Nat.le_succ _) (.str [c] _ (.of S.tk (Nat.lt_succ_self _)) ⟨by show 1 ≤ sizeLine; decide, okc_sub z.2 fun c' hc => by
          have e : c' = c := by simpa using hc
          rw [e]
          exact List.mem_of_getElem? q2⟩)
    | _ => exact True.intro
  | _ => cases h2 <;> exact True.intro
theorem se_sub (ha : SE B X N F a xa) (hb : SE B X N F b xb) (hs : PlainIx b) : SE B X N F (.Subscript a b pos) (.sub xa xb) := by
  intro pins O ρ s S
  refine Gw.bind (K := fun v s1 Q => wpAny (model X.prog X.w) X.A (eval b X.env) (fun u s2 => wpAny (model X.prog X.w) X.A (subscriptTail a b v u) Q X.xe s2) X.xe s1) wm_mono (fun Q hq => Subscript_ hq) (ha pins O ρ s S) fun x v s1 _ p => ?_
  have S1 := S.step p.1 p.2.1
  refine Gw.bind (W1 := Wm X (eval b X.env) s1) (K := fun u s2 Q => wpAny (model X.prog X.w) X.A (subscriptTail a b v u) Q X.xe s2) wm_mono (fun Q hq => hq) (hb pins O ρ s1 S1) fun y u s2 _ p2 => ?_
  exact (sub_ok (S1.step p2.1 p2.2.1) (p2.2.1.dat S.fr p.2.2) p2.2.2 (hs _ _)).later wm_mono (p.2.1.trans p2.2.1)
theorem clip_eq (n : Nat) (i : Int) : clip n i = HT.sIx n 0 (some i) := by
  show clip n i = if i < 0 then (i + (n : Int)).toNat else min i.toNat n
  unfold clip
  by_cases h : 0 ≤ i
  · rw [if_pos h, if_neg (by omega)]
  · rw [if_neg h, if_pos (by omega)]
theorem cut_eq {α : Type} (l : List α) (lo hi : Option Int) : cut l lo hi = (l.drop (HT.sIx l.length 0 lo)).take (HT.sIx l.length l.length hi - HT.sIx l.length 0 lo) := by
  cases lo with
  | none =>
    cases hi with
    | none => rfl
    | some j =>
      simp only [cut, clip_eq]
      rfl
  | some i =>
    cases hi with
    | none =>
      simp only [cut, clip_eq]
      rfl
    | some j =>
      simp only [cut, clip_eq]
      rfl
theorem cut_len {α : Type} (l : List α) (lo hi : Option Int) : (cut l lo hi).length ≤ l.length := by
  unfold cut
  simp only [List.length_take, List.length_drop]
  omega
theorem cut_mem {α : Type} {l : List α} {lo hi : Option Int} {c : α} (h : c ∈ cut l lo hi) : c ∈ l := List.mem_of_mem_drop (List.mem_of_mem_take h)
theorem DVs.cut {B : Bk} {O : Addr → Prop} {h : Heap} {n : Nat} {vs : List Value} {ds : List D} (r : DVs B O h n vs ds) (lo hi : Option Int) : DVs B O h n ((vs.drop (HT.sIx ds.length 0 lo)).take (HT.sIx ds.length ds.length hi - HT.sIx ds.length 0 lo)) (Ev.cut ds lo hi) := by
  rw [cut_eq]
  exact (r.drop _).take _
def isSeq : D → Bool
  | .list _ => true
  | .tuple _ => true
  | .str _ => true
  | _ => false
theorem slice_ok {sl : Addr} {vl vu : Value} {lo hi : Option Int} (S : Ste B X pins O N ρ s) {x : D} {v : Value} (h1 : DV B O s.heap s.toks v x) (hs : s.heap.IsSliceOf sl vl vu .none) (pl : IsPart vl lo) (pu : IsPart vu hi) :
    isSeq x = true → ∃ T id, typeLookup (.type T) "__getitem__" = pure (some (.builtin id)) ∧ s.TypeIs v T ∧ Gw B X (Wm X (getItem v (.ref sl)) s) (sliceD x lo hi) (Pst B X pins O s) := by
  intro hx
  cases h1 with
  | @list ad its ep ds no e z r =>
    have ht : s.heap.IsList ad its.toArray := ⟨_, e, rfl, _, rfl⟩
    have hl := r.length
    refine ⟨"list", _, slot_list_getitem.lookup, ht.typeIs, ?_⟩
    refine wpAny_getItem_list_slice ht hs pl pu .none (by simp) ?_ (by rw [List.size_toArray] <;> omega)
    rw [slicePick_cut, hl]
    exact pst_newL S (Nat.le_trans (by simp only [List.length_take, List.length_drop]; omega) z) (r.cut lo hi)
  | @tuple ad its ep ds no e z r =>
    have ht : IsTup s.heap ad its.toArray := ⟨_, e, rfl, _, rfl⟩
    have hl := r.length
    refine ⟨"tuple", _, PyProof.Rows.slot_tuple_getitem.lookup, ht.typeIs, ?_⟩
    by_cases hw : HT.sIx ds.length 0 lo = 0 ∧ HT.sIx ds.length ds.length hi = ds.length
    · refine getItem_tuple_whole ht hs pl pu (by rw [List.size_toArray, hl]; exact hw) ?_
      have e2 : Ev.cut ds lo hi = ds := by
        rw [cut_eq, hw.1, hw.2]
        simp
      show Pst B X pins O s (.tuple (Ev.cut ds lo hi)) _ s
      rw [e2]
      exact pst_now S (.tuple no e z r)
    · refine HT.getItem_tuple_cut ht hs pl pu (by rw [List.size_toArray, hl]; exact hw) ?_ (by rw [List.size_toArray]; exact z)
      have e3 : its.toArray.size = ds.length := by rw [List.size_toArray, hl]
      rw [e3]
      exact pst_newT S (Nat.le_trans (by simp only [List.length_take, List.length_drop]; omega) z) (r.cut lo hi)
  | str l t g z =>
    obtain ⟨os, hos, hcs, hds⟩ := hs
    obtain ⟨l', rfl, rfl⟩ := IsPart.raw pl
    obtain ⟨u', rfl, rfl⟩ := IsPart.raw pu
    refine ⟨"str", _, F.slot_str_getitem.lookup, typeIs_str _ _ _, ?_⟩
    refine wpAny_getItem_str_slice (l := l') (u := u') (st := none) ⟨os, hos, hcs, hds⟩ rfl ?_
    have e1 : PySem.StrLaws.sliceText (tS l) (l'.map (·.1)) (u'.map (·.1)) = tS (Ev.cut l (l'.map (·.1)) (u'.map (·.1))) := by
      rw [sliceText_cut, cut_eq]
      unfold cutS
      rw [tS_len]
    have hl : (Ev.cut l (l'.map (·.1)) (u'.map (·.1))).length ≤ sizeLine := Nat.le_trans (cut_len _ _ _) z.1
    have ho : okc (Ev.cut l (l'.map (·.1)) (u'.map (·.1))) = true := okc_sub z.2 fun c hc => cut_mem hc
    show Made.post (if ((1 : Int) == 1 && (Builtin.Str.strSliceIndices (l'.map (·.1)) (u'.map (·.1)) 1 (tS l).length).length == (tS l).length) = true then Made.val (.str (tS l) t)
      else Made.str ⟨((Builtin.Str.strSliceIndices (l'.map (·.1)) (u'.map (·.1)) 1 (tS l).length).filterMap ((tS l).cps[·]?)).toArray⟩) (Pst B X pins O s (.str (Ev.cut l (l'.map (·.1)) (u'.map (·.1))))) s
    unfold PySem.StrLaws.sliceText at e1
    by_cases c : ((1 : Int) == 1 && (Builtin.Str.strSliceIndices (l'.map (·.1)) (u'.map (·.1)) 1 (tS l).length).length == (tS l).length) = true
    · rw [if_pos c] at e1 ⊢
      have e2 : l = Ev.cut l (l'.map (·.1)) (u'.map (·.1)) := by simpa using congrArg (fun z : Str => z.cps.toList) e1
      rw [← e2]
      exact post_val S (.str l t g z)
    · rw [if_neg c] at e1 ⊢
      rw [e1]
      exact post_str S ⟨hl, ho⟩
  | _ => cases hx
end
end Ev
namespace Ev
open PySem PySem.Spec PyProof.Rows L2
section
variable {B : Bk} {X : Cx} {N : List Str} {F : Fx} {pins : List (Addr × Obj)} {O : Addr → Prop} {ρ : List Sl} {s : Shared} {pos p2 : Pos} {a b c e : Expr} {es : List Expr} {xa xb xc x : Ev.X} {xs : List Ev.X}
/-- a part of a slice -/
def SO (B : Bk) (X : Cx) (N : List Str) (F : Fx) (e : Option Expr) (x : Option Ev.X) : Prop :=
  ∀ (pins : List (Addr × Obj)) (O : Addr → Prop) (ρ : List Sl) (s : Shared), Ste B X pins O N ρ s → Gw B X (Wm X (evalPart e X.env) s) (evO F ρ x) (fun o u s' => Inv X pins [] X.H_0 s' ∧ Le X s s' ∧ IsPart u o)
theorem so_none : SO B X N F none none := by
  intro pins O ρ s S
  rw [evalPart_none]
  exact wpAny_pure ⟨S.inv, Le.refl, .none⟩
theorem so_some (h : SE B X N F e x) : SO B X N F (some e) (some x) := by
  intro pins O ρ s S
  rw [evalPart_some]
  refine Gw.bind (K := fun u s1 Q => Q u s1) wm_mono (fun Q hq => hq) (h pins O ρ s S) fun d u s1 _ p => ?_
  obtain ⟨p1, p2, p3⟩ := p
  cases p3 with
  | int i t => exact Gw.guard fun _ => ⟨p1, p2, .int i t⟩
  | _ => exact True.intro
theorem se_slice {lo hi : Option Expr} {xl xh : Option Ev.X} (ha : SE B X N F a xa) (hl : SO B X N F lo xl) (hh : SO B X N F hi xh) (hsub : ∀ v u, subscripted (.Slice lo hi none p2) false v u = operate [u, v] (getItem v u)) : SE B X N F (.Subscript a (.Slice lo hi none p2) pos) (.slice xa xl xh) := by
  intro pins O ρ s S
  refine Gw.bind (K := fun v s1 Q => wpAny (model X.prog X.w) X.A (evalPart lo X.env) (fun vl s2 => wpAny (model X.prog X.w) X.A (evalPart hi X.env) (fun vu s3 => wpAny (model X.prog X.w) X.A (subscriptTail a (.Slice lo hi none p2) v (.ref s3.heap.objs.size)) Q X.xe { s3 with heap := s3.heap.push { cls := .type "slice", data := .fields #[vl, vu, .none] } }) X.xe s2) X.xe s1) wm_mono
    (fun Q hq => Subscript_ (thn hq fun v s1 h1 => wpAny_Slice (thn h1 fun vl s2 h2 => thn h2 fun vu s3 h3 => by rw [evalPart_none]; exact wpAny_pure h3))) (ha pins O ρ s S) fun x v s1 _ p => ?_
  have S1 := S.step p.1 p.2.1
  refine Gw.bind (W1 := Wm X (evalPart lo X.env) s1) (K := fun vl s2 Q => wpAny (model X.prog X.w) X.A (evalPart hi X.env) (fun vu s3 => wpAny (model X.prog X.w) X.A (subscriptTail a (.Slice lo hi none p2) v (.ref s3.heap.objs.size)) Q X.xe { s3 with heap := s3.heap.push { cls := .type "slice", data := .fields #[vl, vu, .none] } }) X.xe s2) wm_mono (fun Q hq => hq) (hl pins O ρ s1 S1) fun lo' vl s2 _ p2' => ?_
  obtain ⟨i2, l2, pl⟩ := p2'
  have S2 := S1.step i2 l2
  refine Gw.bind (W1 := Wm X (evalPart hi X.env) s2) (K := fun vu s3 Q => wpAny (model X.prog X.w) X.A (subscriptTail a (.Slice lo hi none p2) v (.ref s3.heap.objs.size)) Q X.xe { s3 with heap := s3.heap.push { cls := .type "slice", data := .fields #[vl, vu, .none] } }) wm_mono (fun Q hq => hq) (hh pins O ρ s2 S2) fun hi' vu s3 _ p3 => ?_
  obtain ⟨i3, l3, pu⟩ := p3
  have S3 := S2.step i3 l3
  have l4 : Le X s3 { s3 with heap := s3.heap.push { cls := .type "slice", data := .fields #[vl, vu, .none] } } := Le.kept (fun b o e => Heap.get?_push_of_some _ e) (Nat.le_refl _)
  have S4 : Ste B X pins O N ρ { s3 with heap := s3.heap.push { cls := .type "slice", data := .fields #[vl, vu, .none] } } := S3.step (i3.kept (t' := s3.toks) fun b ob q => Heap.get?_push_of_some _ q) l4
  have lt := ((p.2.1.trans l2).trans l3).trans l4
  have hd : DV B O _ _ v x := ((l2.trans l3).trans l4).dat S.fr p.2.2
  cases hx : isSeq x with
  | false => cases x <;> first | (cases hx; done) | exact True.intro
  | true =>
    obtain ⟨T, id, hT, ht, hg⟩ := slice_ok S4 hd (Heap.IsSliceOf.new ..) pl pu hx
    refine Gw.rule (W := Wm X (getItem v (.ref s3.heap.objs.size)) { s3 with heap := s3.heap.push { cls := .type "slice", data := .fields #[vl, vu, .none] } }) (fun Q hq => tail_any (ops := [.ref s3.heap.objs.size, v]) ht hT hq (hsub _ _)) (hg.later wm_mono lt)
def SCall (B : Bk) (X : Cx) (f : Value) (g : List D → R D) : Prop := ∀ (pins : List (Addr × Obj)) (O : Addr → Prop) (N : List Str) (ρ : List Sl) (s : Shared) (ds : List D) (us : List Value), Ste B X pins O N ρ s →
  DVs B O s.heap s.toks us ds → Gw B X (Wm X (call f us) s) (g ds) (Pst B X pins O s)
theorem se_callB {n : Str} {id : String} {g : List D → R D} {np : Pos} (hc : SCall B X (.builtin id) g) (hm : X.mg n = none) (hv : bootBuiltins n = some (.builtin id)) (ha : SA B X N F (e :: es) xs) (hg : L2.Gl X n) (hn : n ≠ "__name__") (hdb : (n == ("__debug__" : Str)) = false)
    (he : starEach (e :: es) X.env = (false, eval e X.env) :: starEach es X.env) (hpl : (backTo pos (starEach es X.env)).any (·.1) = false) (S : Ste B X pins O N ρ s) :
    Gw B X (Wm X (eval (.Call (.Name n np) (e :: es) [] pos) X.env) s) ((evs F ρ xs).bind g) (Pst B X pins O s) := by
  refine Gw.bind (K := fun us s1 Q => wpAny (model X.prog X.w) X.A (call (.builtin id) us) Q X.xe s1) wm_mono (fun Q hq => wpAny_Call_Name_kw (ld_blt S.inv hg hm hv (PyProof.Rows.callWith_builtin1 hq he hpl) hn hdb)) (ha pos pins O ρ s S) fun ds us s1 _ p => ?_
  exact (hc pins O N ρ s1 ds us (S.step p.1 p.2.1) p.2.2).later wm_mono p.2.1
theorem se_callTy {n : Str} {T : String} {g : List D → R D} {np : Pos} (hc : SCall B X (.type T) g) (hm : X.mg n = none) (hv : bootBuiltins n = some (.type T)) (ha : SA B X N F (e :: es) xs) (hg : L2.Gl X n) (hn : n ≠ "__name__") (hdb : (n == ("__debug__" : Str)) = false)
    (he : starEach (e :: es) X.env = (false, eval e X.env) :: starEach es X.env) (hpl : (backTo pos (starEach es X.env)).any (·.1) = false) (S : Ste B X pins O N ρ s) :
    Gw B X (Wm X (eval (.Call (.Name n np) (e :: es) [] pos) X.env) s) ((evs F ρ xs).bind g) (Pst B X pins O s) := by
  refine Gw.bind (K := fun us s1 Q => wpAny (model X.prog X.w) X.A (call (.type T) us) Q X.xe s1) wm_mono (fun Q hq => wpAny_Call_Name_kw (ld_blt S.inv hg hm hv (PyProof.Rows.callWith_type1 hq he hpl) hn hdb)) (ha pos pins O ρ s S) fun ds us s1 _ p => ?_
  exact (hc pins O N ρ s1 ds us (S.step p.1 p.2.1) p.2.2).later wm_mono p.2.1
theorem sc_len : SCall B X (.builtin "len") (bltD .len) := by
  intro pins O N ρ s ds us S h
  have hl := line63
  have hs := sizeLine_eq
  cases h with
  | nil => exact True.intro
  | cons h1 t =>
    cases t with
    | cons _ _ => cases h1 <;> exact True.intro
    | nil =>
      cases h1 with
      | str l t g z =>
        refine len_str (by rw [tS_len]; omega) ?_
        rw [tS_len]
        exact pst_int S (by omega)
      | list no e z r =>
        refine Calls.call_len_list ⟨_, e, rfl, _, rfl⟩ (by simp only [List.size_toArray]; omega) ?_
        simp only [List.size_toArray]
        rw [r.length]
        exact pst_int S (by omega)
      | tuple no e z r =>
        refine len_tuple ⟨_, e, rfl, _, rfl⟩ (by simp only [List.size_toArray]; omega) ?_
        simp only [List.size_toArray]
        rw [r.length]
        exact pst_int S (by omega)
      | _ => exact True.intro
theorem sc_tuple : SCall B X (.type "tuple") (bltD .tuple) := by
  intro pins O N ρ s ds us S h
  cases h with
  | nil => exact True.intro
  | cons h1 t =>
    cases t with
    | cons _ _ => cases h1 <;> exact True.intro
    | nil =>
      cases h1 with
      | list no e z r =>
        refine call_tuple_list ⟨_, e, rfl, _, rfl⟩ (fun h' kp => ?_) (by simp only [List.size_toArray]; exact z)
        have l1 : Le X s { s with heap := h' } := Le.kept kp (Nat.le_refl _)
        have S1 : Ste B X pins O N ρ { s with heap := h' } := S.step (S.inv.kept (t' := s.toks) kp) l1
        exact (pst_newT S1 z (l1.dats S.fr r)).later l1
      | tuple no e z r => exact call_tuple_same ⟨_, e, rfl, _, rfl⟩ (pst_now S (.tuple no e z r))
      | _ => exact True.intro
theorem list_new (S : Ste B X pins O N ρ s) {its : List Value} {ds : List D} (z : its.length ≤ sizeLine) (r : DVs B O s.heap s.toks its ds) (h' : Heap) (c' : Nat) (kp : ∀ b o', s.heap.get? b = some o' → h'.get? b = some o')
    (e : h'.get? s.heap.objs.size = some { cls := .type "list", dict := none, data := .seq its.toArray c', slots := #[] }) : Pst B X pins O s (.list ds) (.ref s.heap.objs.size) { s with heap := h' } := by
  have l1 : Le X s { s with heap := h' } := Le.kept kp (Nat.le_refl _)
  exact ⟨S.inv.kept (t' := s.toks) kp, l1, .list S.new e z (l1.dats S.fr r)⟩
theorem sc_list : SCall B X (.type "list") (bltD .list) := by
  intro pins O N ρ s ds us S h
  cases h with
  | nil => exact True.intro
  | cons h1 t =>
    cases t with
    | cons _ _ => cases h1 <;> exact True.intro
    | nil =>
      cases h1 with
      | list no e z r => exact call_list_seq _ (.inl rfl) e rfl rfl (fun h' c' kp e' => list_new S z r h' c' kp e') (by simp only [List.size_toArray]; exact z)
      | tuple no e z r => exact call_list_seq _ (.inr rfl) e rfl rfl (fun h' c' kp e' => list_new S z r h' c' kp e') (by simp only [List.size_toArray]; exact z)
      | _ => exact True.intro
/-- what the items are -/
theorem allInt_of {B : Bk} {O : Addr → Prop} {h : Heap} {n : Nat} : ∀ {vs : List Value} {ds : List D} {ns : List Int}, DVs B O h n vs ds → allInt ds = .ok ns → IntsAre vs ns ∧ ds = ns.map .int
  | _, _, ns, .nil, e => by
    cases e
    exact ⟨.nil, rfl⟩
  | _, _, ns, .cons (ds := r) h t, e => by
    cases h with
    | int i tk =>
      have e' : (allInt r).bind (fun l => .ok (i :: l)) = R.ok ns := e
      cases e2 : allInt r with
      | ok l =>
        rw [e2] at e'
        cases e'
        obtain ⟨q1, q2⟩ := allInt_of t e2
        exact ⟨.cons i tk q1, by rw [q2]; rfl⟩
      | err c =>
        rw [e2] at e'
        cases e'
      | stuck =>
        rw [e2] at e'
        cases e'
    | _ => cases e
theorem allInt_err : ∀ (ds : List D) (c : Nat), allInt ds ≠ .err c
  | [], c, e => nomatch e
  | d :: r, c, e => by
    cases d with
    | int i =>
      have e' : (allInt r).bind (fun l => .ok (i :: l)) = R.err c := e
      cases e2 : allInt r with
      | ok l =>
        rw [e2] at e'
        cases e'
      | err c' => exact allInt_err r c' e2
      | stuck =>
        rw [e2] at e'
        cases e'
    | _ => cases e
theorem allBool_of {B : Bk} {O : Addr → Prop} {h : Heap} {n : Nat} : ∀ {vs : List Value} {ds : List D} {ns : List Bool}, DVs B O h n vs ds → allBool ds = .ok ns → vs = ns.map Value.bool ∧ ds = ns.map .bool
  | _, _, ns, .nil, e => by
    cases e
    exact ⟨rfl, rfl⟩
  | _, _, ns, .cons (ds := r) h t, e => by
    cases h with
    | bool i =>
      have e' : (allBool r).bind (fun l => .ok (i :: l)) = R.ok ns := e
      cases e2 : allBool r with
      | ok l =>
        rw [e2] at e'
        cases e'
        obtain ⟨q1, q2⟩ := allBool_of t e2
        exact ⟨by rw [q1]; rfl, by rw [q2]; rfl⟩
      | err c =>
        rw [e2] at e'
        cases e'
      | stuck =>
        rw [e2] at e'
        cases e'
    | _ => cases e
theorem allBool_err : ∀ (ds : List D) (c : Nat), allBool ds ≠ .err c
  | [], c, e => nomatch e
  | d :: r, c, e => by
    cases d with
    | bool i =>
      have e' : (allBool r).bind (fun l => .ok (i :: l)) = R.err c := e
      cases e2 : allBool r with
      | ok l =>
        rw [e2] at e'
        cases e'
      | err c' => exact allBool_err r c' e2
      | stuck =>
        rw [e2] at e'
        cases e'
    | _ => cases e
theorem sc_sum (hc : X.calm = true) : SCall B X (.builtin "sum") (bltD .sum) := by
  intro pins O N ρ s ds us S h
  cases h with
  | nil => exact True.intro
  | cons h1 t =>
    cases t with
    | cons _ _ => cases h1 <;> exact True.intro
    | nil =>
      cases h1 with
      | list no e z r =>
        refine Gw.pure (fun ns hn => ?_) (allInt_err _)
        obtain ⟨q1, q2⟩ := allInt_of r hn
        exact wpAny_with_toks (n := s.toks) (Nat.le_refl _) (sum_raw (S.inv.ok.hd hc) ⟨_, e, rfl, _, rfl⟩ q1 fun h' tk t' hk hle => ⟨S.inv.kept hk, Le.kept hk hle, .int _ _⟩)
      | _ => exact True.intro
theorem walk_kept {s : Shared} {h' : Heap} {l : Addr} (hk : ∀ b o, b ∉ [s.heap.objs.size] → (s.heap.push { cls := .type "list_iterator", data := .fields #[.ref l, .int 0 0] }).get? b = some o → h'.get? b = some o) : ∀ b o, s.heap.get? b = some o → h'.get? b = some o := fun b o eo =>
  hk b o (fun hmem => by
    rcases List.mem_cons.mp hmem with e1 | hmem
    · exact absurd (e1 ▸ Heap.lt_size eo) (Nat.lt_irrefl _)
    · cases hmem) (Heap.get?_push_of_some _ eo)
theorem sc_all (hc : X.calm = true) : SCall B X (.builtin "all") (bltD .all) := by
  intro pins O N ρ s ds us S h
  cases h with
  | nil => exact True.intro
  | cons h1 t =>
    cases t with
    | cons _ _ => cases h1 <;> exact True.intro
    | nil =>
      cases h1 with
      | @list a its ep l no e z r =>
        refine Gw.pure (fun ns hn => ?_) (allBool_err _)
        obtain ⟨q1, q2⟩ := allBool_of r hn
        refine wpAny_with_toks (n := s.toks) (Nat.le_refl _) (call_all_walk (iter_any ⟨_, e, rfl, _, rfl⟩ fun s₂ e2 st hne => ?_))
        subst e2
        refine ⟨_, _, _, _, _, _, _, rfl, Walks.list (A := X.A.in1) (S.inv.ok.hd hc) _ a hne its.toArray, st, truth_bools q1, fun h' tk hk hle => ?_⟩
        refine ⟨S.inv.kept (walk_kept hk), Le.kept (walk_kept hk) hle, ?_⟩
        rw [← L2.all_range, q1, List.size_toArray, List.length_map]
        exact .bool _
      | _ => exact True.intro
theorem sc_any (hc : X.calm = true) : SCall B X (.builtin "any") (bltD .any) := by
  intro pins O N ρ s ds us S h
  cases h with
  | nil => exact True.intro
  | cons h1 t =>
    cases t with
    | cons _ _ => cases h1 <;> exact True.intro
    | nil =>
      cases h1 with
      | @list a its ep l no e z r =>
        refine Gw.pure (fun ns hn => ?_) (allBool_err _)
        obtain ⟨q1, q2⟩ := allBool_of r hn
        refine wpAny_with_toks (n := s.toks) (Nat.le_refl _) (call_any_walk (iter_any ⟨_, e, rfl, _, rfl⟩ fun s₂ e2 st hne => ?_))
        subst e2
        refine ⟨_, _, _, _, _, _, _, rfl, Walks.list (A := X.A.in1) (S.inv.ok.hd hc) _ a hne its.toArray, st, truth_bools q1, fun h' tk hk hle => ?_⟩
        refine ⟨S.inv.kept (walk_kept hk), Le.kept (walk_kept hk) hle, ?_⟩
        rw [← L2.any_range, q1, List.size_toArray, List.length_map]
        exact .bool _
      | _ => exact True.intro
def tyS : Ty → String
  | .int => "int"
  | .bool => "bool"
  | .str => "str"
  | .tuple => "tuple"
  | .list => "list"
  | .cls _ => ""
def tyD : D → String
  | .none => "NoneType"
  | .bool _ => "bool"
  | .int _ => "int"
  | .str _ => "str"
  | .list _ => "list"
  | .tuple _ => "tuple"
  | _ => ""
/-- what is known of the program's own exception classes -/
structure ExcK (B : Bk) (K : PySem.W.Frag) (sub : Nat → Nat → Bool) : Prop where
  ga : ∀ c, c < B.nc → PySem.W.findIn K (.ref (B.ca c)) "__getattribute__" = some (some (.builtin "BaseException.__getattribute__"))
  gt : ∀ c, c < B.nc → PySem.W.findIn K (.ref (B.ca c)) "__getattr__" = some none
  be : ∀ c, c < B.nc → PySem.W.subIn K (.ref (B.ca c)) (.type "BaseException") = some true
  hd : ∀ c, c < B.nc → PySem.W.hasDictIn K (B.ca c) = true
  cl : ∀ c, c < B.nc → PySem.W.findIn K (.ref (B.ca c)) "__class__" = some (some (.builtin "object.__class__"))
  sp : PySem.W.specialIn K (.builtin "object.__class__") "__get__" = some (some (.builtin "getset_descriptor.__get__"))
  tk : PySem.W.takesIn K (.builtin "object.__class__") = some true
  mr : ∀ c, c < B.nc → PySem.W.mroIn K (B.ca c) (.type "object") = some true
  is : ∀ c d, c < B.nc → d < B.nc → PySem.W.kitOne K (.ref (B.ca c)) (.ref (B.ca d)) = some (sub c d)
theorem kit_plain (S : Ste B X pins O N ρ s) {v : Value} {d : D} (h : DV B O s.heap s.toks v d) (hp : tyD d ≠ "") : ∃ H, PySem.W.KitX X.K v (.type (tyD d)) H ∧ H s.heap ∧ v ≠ .builtin "__main__.__loader__#opaque" := by
  cases h with
  | none => exact ⟨_, PySem.W.kitx_none, True.intro, fun z => nomatch z⟩
  | bool y => exact ⟨_, PySem.W.kitx_bool, True.intro, fun z => nomatch z⟩
  | int i t => exact ⟨_, PySem.W.kitx_int, True.intro, fun z => nomatch z⟩
  | str l t g z => exact ⟨_, PySem.W.kitx_str, True.intro, fun z => nomatch z⟩
  | list no e z r => exact ⟨_, PySem.W.kitx_list, ⟨_, e, rfl⟩, fun z => nomatch z⟩
  | tuple no e z r => exact ⟨_, PySem.W.kitx_tuple, ⟨_, e, rfl⟩, fun z => nomatch z⟩
  | fn f => exact absurd rfl hp
  | exc no e c => exact absurd rfl hp
def isP : Ty → Bool
  | .cls _ => false
  | _ => true
theorem isi_kit {sub : Nat → Nat → Bool} {d : D} {ty : Ty} {k : Bool} (hp : tyD d ≠ "") (ht : isP ty = true) (e : isiD sub d ty = .ok k) : kitB (tyD d) (tyS ty) = some k := by
  cases ty with
  | cls n => cases ht
  | int => cases d <;> first | (exact absurd rfl hp) | (cases e; simp only [tyD, tyS]; decide +kernel)
  | bool => cases d <;> first | (exact absurd rfl hp) | (cases e; simp only [tyD, tyS]; decide +kernel)
  | str => cases d <;> first | (exact absurd rfl hp) | (cases e; simp only [tyD, tyS]; decide +kernel)
  | tuple => cases d <;> first | (exact absurd rfl hp) | (cases e; simp only [tyD, tyS]; decide +kernel)
  | list => cases d <;> first | (exact absurd rfl hp) | (cases e; simp only [tyD, tyS]; decide +kernel)
theorem isi_err {sub : Nat → Nat → Bool} (d : D) (ty : Ty) (c : Nat) : isiD sub d ty ≠ .err c := by
  cases d <;> cases ty <;> exact fun z => nomatch z
theorem isi_ok (S : Ste B X pins O N ρ s) {sub : Nat → Nat → Bool} {v : Value} {d : D} {ty : Ty} (h : DV B O s.heap s.toks v d) (ht : isP ty = true) :
    Gw B X (Wm X (call (.builtin "isinstance") [v, .type (tyS ty)]) s) ((isiD sub d ty).bind fun k => .ok (.bool k)) (Pst B X pins O s) := by
  refine Gw.pure (fun k hk => ?_) (isi_err d ty)
  by_cases hp : tyD d = ""
  · cases d <;> first | (simp [tyD] at hp; done) | (cases ty <;> first | (cases ht; done) | (cases hk; done))
  · obtain ⟨H, Z, q, nb⟩ := kit_plain S h hp
    exact wpAny_with_toks (n := s.toks) (Nat.le_refl _) (PySem.W.kia_one Z S.inv.kIn q (kit_ty (isi_kit hp ht hk)) nb (fun tk hle => pst_tok S hle (.bool k)))
theorem isi_cls {sub : Nat → Nat → Bool} (E : ExcK B X.K sub) (S : Ste B X pins O N ρ s) {v : Value} {d : D} {n : Nat} (hn : n < B.nc) (h : DV B O s.heap s.toks v d) :
    Gw B X (Wm X (call (.builtin "isinstance") [v, .ref (B.ca n)]) s) ((isiD sub d (.cls n)).bind fun k => .ok (.bool k)) (Pst B X pins O s) := by
  cases h with
  | @exc a o c no e q =>
    obtain ⟨q1, q2, ⟨vs, q4⟩, q3⟩ := q
    have nc : PySem.W.notCls o = true := by
      unfold PySem.W.notCls
      rw [q4]
    exact wpAny_with_toks (n := s.toks) (Nat.le_refl _) (PySem.W.kia_one (PySem.W.handS_kitx_exc (E.ga c q3) (E.gt c q3) (E.be c q3) (E.hd c q3) (E.cl c q3) E.sp E.tk (E.mr c q3)) S.inv.kIn ⟨e, q1, nc, by rw [q2]; trivial⟩ (E.is c n q3 hn) (fun z => nomatch z) (fun tk hle => pst_tok S hle (.bool _)))
  | _ => exact True.intro
end
end Ev
namespace Ev
open PySem PySem.Spec PyProof.Rows L2
section
variable {B : Bk} {X : Cx} {N : List Str} {F : Fx} {pins : List (Addr × Obj)} {O : Addr → Prop} {ρ : List Sl} {s : Shared} {pos apos cpos : Pos} {a b c e : Expr} {es : List Expr} {xa xb xc x : Ev.X} {xs : List Ev.X}
def mName : Mth → Str
  | .join => "join"
  | .split => "split"
  | .count => "count"
  | .index => "index"
  | .get => "get"
  | .items => "items"
def mId : Mth → D → String
  | .join, _ => "str.join"
  | .split, _ => "str.split"
  | .count, .str _ => "str.count"
  | .count, _ => "list.count"
  | .index, _ => "list.index"
  | .get, _ => "dict.get"
  | .items, _ => "dict.items"
def noD : D → Bool
  | .dict _ => false
  | _ => true
theorem meth_on (S : Ste B X pins O N ρ s) {m : Mth} {d : D} {v : Value} (h : DV B O s.heap s.toks v d) (hx : mOk m d = true) : ∃ T, PlainAttrs T ∧ Slot T (mName m) (mId m d) ∧ typeOf (.builtin (mId m d)) = pure (.type "method_descriptor") ∧ s.TypeIs v T ∧
    (∀ a, v = .ref a → ∃ ob, s.heap.get? a = some ob ∧ ob.dict = none) := by
  cases h with
  | str l t g z =>
    cases m <;> first
      | (cases hx; done)
      | exact ⟨"str", F.plainAttrs_str, F.slot_str_join, F.type_str_join, typeIs_str _ _ _, fun _ e => nomatch e⟩
      | exact ⟨"str", F.plainAttrs_str, F.slot_str_split, F.type_str_split, typeIs_str _ _ _, fun _ e => nomatch e⟩
      | exact ⟨"str", F.plainAttrs_str, F.slot_str_count, F.type_str_count, typeIs_str _ _ _, fun _ e => nomatch e⟩
  | @list ad its ep ds no e z r =>
    have hd : ∀ a, Value.ref ad = .ref a → ∃ ob, s.heap.get? a = some ob ∧ ob.dict = none := fun a q => by
      cases q
      exact ⟨_, e, rfl⟩
    cases m <;> first
      | (cases hx; done)
      | exact ⟨"list", F.plainAttrs_list, F.slot_list_index, F.type_list_index, ⟨_, e, rfl⟩, hd⟩
      | exact ⟨"list", F.plainAttrs_list, F.slot_list_count, F.type_list_count, ⟨_, e, rfl⟩, hd⟩
  | _ => cases m <;> cases hx
/-- a method called with values -/
def SMt (B : Bk) (X : Cx) (m : Mth) : Prop := ∀ (pins : List (Addr × Obj)) (O : Addr → Prop) (N : List Str) (ρ : List Sl) (s : Shared) (d : D) (v : Value) (ds : List D) (us : List Value), Ste B X pins O N ρ s →
  DV B O s.heap s.toks v d → DVs B O s.heap s.toks us ds → mOk m d = true → Gw B X (Wm X (call (.builtin (mId m d)) (v :: us)) s) (methD m d ds) (Pst B X pins O s)
theorem se_meth {m : Mth} (ho : SE B X N F a xa) (ha : SA B X N F (e :: es) xs) (hm : SMt B X m)
    (hbase : attributeBase a (mName m) X.env (eval a X.env) = eval a X.env)
    (hfew : ((backTo cpos (starEach (e :: es) X.env)).all (fun x => !x.1) && (backToKw cpos (keywordEach [] X.env)).all (fun x => x.1.isSome)
      && decide ((e :: es).length + ([] : List Keyword).length + (if ([] : List Keyword).isEmpty then 0 else 1) < 30)) = true)
    (hline : (apos.endLine == cpos.line) = true) (hs : starEach (e :: es) X.env = (false, eval e X.env) :: starEach es X.env) (hplain : (backTo cpos (starEach es X.env)).any (·.1) = false) :
    SE B X N F (.Call (.Attribute a (mName m) apos) (e :: es) [] cpos) (.meth m xa xs) := by
  intro pins O ρ s S
  refine Gw.bind (K := fun v s1 Q => MethodOn X.prog X.w X.A (mName m) cpos v (backTo cpos (starEach (e :: es) X.env)) Q X.xe s1) wm_mono (fun Q hq => wpAny_Call_method_late hbase hfew hline rfl hq) (ho pins O ρ s S) fun d v s1 _ p => ?_
  have S1 := S.step p.1 p.2.1
  refine Gw.guard fun hx => ?_
  obtain ⟨T, pa, slot, ty, q1, q2⟩ := meth_on S1 p.2.2 hx
  have any : (backTo cpos (starEach (e :: es) X.env)).any (·.1) = false := by
    rw [hs]
    show (false || (backTo cpos (starEach es X.env)).any (·.1)) = false
    rw [hplain]
    rfl
  refine Gw.bind (W1 := Wm X (spliced (backTo cpos (starEach (e :: es) X.env))) s1) (K := fun us s2 Q => wpAny (model X.prog X.w) X.A (call (.builtin (mId m d)) (v :: us)) Q X.xe s2) wm_mono
    (fun Q hq => ⟨T, mId m d, pa, slot, ty, q1, q2, ?_⟩) (ha cpos pins O ρ s1 S1) fun ds us s2 _ p2 => ?_
  · have hq' := hq
    rw [hs] at hq' any ⊢
    exact Calls.callWith_builtin any (Calls.evalArgs_plain hq')
  · exact (hm pins O N ρ s2 d v ds us (S1.step p2.1 p2.2.1) (p2.2.1.dat S.fr p.2.2) p2.2.2 hx).later wm_mono (p.2.1.trans p2.2.1)
theorem allStr_of {B : Bk} {O : Addr → Prop} {h : Heap} {n : Nat} : ∀ {vs : List Value} {ds : List D} {ns : List (List Nat)}, DVs B O h n vs ds → allStr ds = .ok ns →
    ∃ l : List (Str × Tok), vs = strValues l ∧ l.map (·.1) = ns.map tS ∧ ds = ns.map .str ∧ ∀ p ∈ l, ∃ x, p.1 = tS x ∧ Gd n x p.2 ∧ x.length ≤ sizeLine ∧ okc x = true
  | _, _, ns, .nil, e => by
    cases e
    exact ⟨[], rfl, rfl, rfl, fun p hp => nomatch hp⟩
  | _, _, ns, .cons (ds := r) h t, e => by
    cases h with
    | str i tk g z =>
      have e' : (allStr r).bind (fun l => .ok (i :: l)) = R.ok ns := e
      cases e2 : allStr r with
      | ok l =>
        rw [e2] at e'
        cases e'
        obtain ⟨l', q1, q2, q3, q4⟩ := allStr_of t e2
        refine ⟨(tS i, tk) :: l', by rw [q1]; rfl, by rw [List.map_cons, q2]; rfl, by rw [q3]; rfl, fun p hp => ?_⟩
        rcases List.mem_cons.mp hp with rfl | hp
        · exact ⟨i, rfl, g, z.1, z.2⟩
        · exact q4 p hp
      | err c =>
        rw [e2] at e'
        cases e'
      | stuck =>
        rw [e2] at e'
        cases e'
    | _ => cases e
theorem allStr_err : ∀ (ds : List D) (c : Nat), allStr ds ≠ .err c
  | [], c, e => nomatch e
  | d :: r, c, e => by
    cases d with
    | str i =>
      have e' : (allStr r).bind (fun l => .ok (i :: l)) = R.err c := e
      cases e2 : allStr r with
      | ok l =>
        rw [e2] at e'
        cases e'
      | err c' => exact allStr_err r c' e2
      | stuck =>
        rw [e2] at e'
        cases e'
    | _ => cases e
theorem joinL_eq (s : List Nat) : ∀ xs : List (List Nat), Ev.joinL s xs = TL.joinL s xs
  | [] => rfl
  | [_] => rfl
  | x :: y :: r => by
    show x ++ s ++ Ev.joinL s (y :: r) = x ++ (s ++ TL.joinL s (y :: r))
    rw [joinL_eq s (y :: r), List.append_assoc]
theorem join_tS (s : List Nat) (xs : List (List Nat)) : Txt.join (tS s) (xs.map tS) = tS (Ev.joinL s xs) := by
  refine TL.ext_tl ?_
  rw [TL.join_eq, TL.tl_join, List.map_map, joinL_eq]
  show TL.joinL s (xs.map fun x => x) = TL.joinL s xs
  rw [List.map_id']
theorem sumLen_eq : ∀ xs : List (List Nat), ((xs.map tS).map (·.length)).sum = sumLen xs
  | [] => rfl
  | x :: r => by
    rw [List.map_cons, List.map_cons, List.sum_cons, sumLen_eq r, tS_len]
    rfl
theorem okc_join {s : List Nat} (hs : okc s = true) : ∀ {xs : List (List Nat)}, (∀ x ∈ xs, okc x = true) → okc (Ev.joinL s xs) = true
  | [], _ => rfl
  | [x], h => h x (by simp)
  | x :: y :: r, h => okc_app (okc_app (h x (by simp)) hs) (okc_join hs fun z hz => h z (List.mem_cons_of_mem _ hz))
theorem join_post (S : Ste B X pins O N ρ s) {sp : List Nat} {ns : List (List Nat)} (ho : okc sp = true) : ∀ {l : List (Str × Tok)}, l.map (·.1) = ns.map tS → (∀ p ∈ l, ∃ x, p.1 = tS x ∧ Gd s.toks x p.2 ∧ x.length ≤ sizeLine ∧ okc x = true) →
    (Ev.joinL sp ns).length ≤ sizeLine → (joinMade (tS sp) l).post (Pst B X pins O s (.str (Ev.joinL sp ns))) s := by
  intro l hl hp hz
  have hok : okc (Ev.joinL sp ns) = true := okc_join ho fun x hx => by
    have : tS x ∈ l.map (·.1) := by
      rw [hl]
      exact List.mem_map.mpr ⟨x, hx, rfl⟩
    obtain ⟨p, hp1, hp2⟩ := List.mem_map.mp this
    obtain ⟨y, e, _, _, q⟩ := hp p hp1
    rw [e] at hp2
    have : y = x := by simpa using congrArg (fun z : Str => z.cps.toList) hp2
    rw [← this]
    exact q
  match l, ns with
  | [], [] => exact post_str S ⟨hz, hok⟩
  | [], _ :: _ => cases hl
  | _ :: _, [] => cases hl
  | [p], [n] =>
    obtain ⟨x, e, g, z1, z2⟩ := hp p (by simp)
    have e2 : tS x = tS n := by
      rw [← e]
      simpa using hl
    have e3 : x = n := by simpa using congrArg (fun z : Str => z.cps.toList) e2
    subst e3
    have : (Made.val (.str p.1 p.2)).post (Pst B X pins O s (.str x)) s := by
      rw [e]
      exact post_val S (.str x p.2 g ⟨z1, z2⟩)
    exact this
  | [p], _ :: _ :: _ => simp at hl
  | _ :: _ :: _, [_] => simp at hl
  | p :: q :: r, m :: n :: ns' =>
    have : (Made.str (Txt.join (tS sp) ((p :: q :: r).map (·.1)))).post (Pst B X pins O s (.str (Ev.joinL sp (m :: n :: ns')))) s := by
      rw [hl, join_tS]
      exact post_str S ⟨hz, hok⟩
    exact this
theorem sm_join : SMt B X .join := by
  intro pins O N ρ s d v ds us S h1 h2 hx
  show Gw B X (Wm X (call (.builtin "str.join") (v :: us)) s) _ _
  cases h1 with
  | str sp t g z =>
    cases h2 with
    | nil => exact True.intro
    | cons h2 t2 =>
      cases t2 with
      | cons _ _ => exact True.intro
      | nil =>
        have fin : ∀ {ns : List (List Nat)} {l : List (Str × Tok)}, l.map (·.1) = ns.map tS → fits (sumLen ns + ns.length * sp.length) = true → JoinOk (tS sp) (l.map (·.1)) = true ∧ (Ev.joinL sp ns).length ≤ sizeLine := fun {ns l} hl hf => by
          have hz : sumLen ns + ns.length * sp.length ≤ 16777216 := Nat.le_of_ble_eq_true hf
          have hj : JoinOk (tS sp) (l.map (·.1)) = true := by
            rw [hl]
            refine joinOk_of ?_
            rw [sumLen_eq, List.length_map, tS_len]
            exact hz
          refine ⟨hj, ?_⟩
          have h := StrLaws.join_length_le (tS sp) (ns.map tS)
          rw [sumLen_eq, List.length_map, tS_len, ← TL.join_eq, join_tS, tS_len] at h
          rw [sizeLine_eq]
          exact Nat.le_trans h hz
        cases h2 with
        | list no e z2 r =>
          refine Gw.pure (fun ns hn => ?_) (allStr_err _)
          refine Gw.guard fun hf => ?_
          obtain ⟨l, q1, q2, q3, q4⟩ := allStr_of r hn
          subst q1
          obtain ⟨hj, hz⟩ := fin q2 hf
          unfold JoinOk at hj
          rw [Bool.not_eq_true'] at hj
          exact call_meets F.slot_str_join (typeIs_str _ _ _) F.entry_str_join (F.args_str_join_2 _ _) (meets_str_join_list (tS sp) t _ l hj) ⟨⟨_, e, rfl, _, rfl⟩, join_post S z.2 q2 q4 hz⟩
        | tuple no e z2 r =>
          refine Gw.pure (fun ns hn => ?_) (allStr_err _)
          refine Gw.guard fun hf => ?_
          obtain ⟨l, q1, q2, q3, q4⟩ := allStr_of r hn
          subst q1
          obtain ⟨hj, hz⟩ := fin q2 hf
          unfold JoinOk at hj
          rw [Bool.not_eq_true'] at hj
          exact call_meets F.slot_str_join (typeIs_str _ _ _) F.entry_str_join (F.args_str_join_2 _ _) (meets_str_join_tuple (tS sp) t _ l hj) ⟨⟨_, _, e, rfl, rfl⟩, join_post S z.2 q2 q4 hz⟩
        | _ => exact True.intro
  | _ => cases hx
theorem repl_tS (l : List Nat) (c : Nat) : Txt.replace (tS l) ⟨#[c]⟩ ⟨#[]⟩ = tS (l.filter fun x => x != c) := by
  have h := PyProof.Rows.replace_strikes (tS l) c
  exact Str.ext' (Array.toList_inj.mp (by rw [h]))
theorem se_repl {o : Expr} {xo : Ev.X} {j : Nat} {kp : Pos} {z0 : Str} (hz0 : z0 = tS []) (ha : SE B X N F a xa) (ho : SE B X N F o xo)
    (hbase : attributeBase a "replace" X.env (eval a X.env) = eval a X.env)
    (hfew : ((backTo cpos (starEach [o, .Constant (.str z0) j kp] X.env)).all (fun x => !x.1) && (backToKw cpos (keywordEach [] X.env)).all (fun x => x.1.isSome)
      && decide (([o, .Constant (.str z0) j kp] : List Expr).length + ([] : List Keyword).length + (if ([] : List Keyword).isEmpty then 0 else 1) < 30)) = true)
    (hline : (apos.endLine == cpos.line) = true) (hs : starEach [o, .Constant (.str z0) j kp] X.env = (false, eval o X.env) :: starEach [.Constant (.str z0) j kp] X.env) (hs2 : starEach [.Constant (.str z0) j kp] X.env = [(false, eval (.Constant (.str z0) j kp) X.env)]) :
    SE B X N F (.Call (.Attribute a "replace" apos) [o, .Constant (.str z0) j kp] [] cpos) (.repl xa xo) := by
  intro pins O ρ s S
  refine Gw.bind (K := fun v s1 Q => MethodOn X.prog X.w X.A "replace" cpos v (backTo cpos (starEach [o, .Constant (.str z0) j kp] X.env)) Q X.xe s1) wm_mono (fun Q hq => wpAny_Call_method_late hbase hfew hline rfl hq) (ha pins O ρ s S) fun d v s1 _ p => ?_
  have S1 := S.step p.1 p.2.1
  refine Gw.guard fun hx => ?_
  cases d with
  | str l =>
    obtain ⟨p1, p2, p3⟩ := p
    cases p3 with
    | str _ t g z =>
      refine Gw.bind (W1 := Wm X (eval o X.env) s1) (K := fun u s2 Q => wpAny (model X.prog X.w) X.A (call (.builtin "str.replace") [.str (tS l) t, u, .str z0 s2.toks]) Q X.xe { s2 with toks := s2.toks + 1 }) wm_mono
        (fun Q hq => ⟨"str", "str.replace", PySem.F.plainAttrs_str, PySem.F.slot_str_replace, PySem.F.type_str_replace, typeIs_str _ _ _, (fun _ e => nomatch e), ?_⟩) (ho pins O ρ s1 S1) fun y u s2 _ q => ?_
      · rw [hs, hs2]
        refine Calls.callWith_builtin rfl (Calls.evalArgs_plain ?_)
        show wpAny _ _ (spliced ((false, eval o X.env) :: backTo cpos [(false, eval (.Constant (.str z0) j kp) X.env)])) _ _ s1
        refine Calls.spliced_cons (thn hq fun u s2 h2 => ?_)
        show wpAny _ _ (spliced ((false, eval (.Constant (.str z0) j kp) X.env) :: backTo cpos [])) _ _ s2
        exact Calls.spliced_cons (Calls.Constant_str (Calls.spliced_nil h2))
      · obtain ⟨q1, q2, q3⟩ := q
        have S2 := S1.step q1 q2
        cases q3 with
        | str w t' g' z' =>
          match w, g', z' with
          | [], _, _ => exact True.intro
          | _ :: _ :: _, _, _ => exact True.intro
          | [c], g', z' =>
            refine Gw.guard fun hc => ?_
            rw [Bool.and_eq_true] at hc
            have hc32 : c ≠ 32 := by simpa using hc.1
            have hlen : l.length ≤ 1000000 := Nat.le_of_ble_eq_true hc.2
            obtain ⟨u0, u1⟩ := g' c rfl hc32
            subst hz0
            have tk2 := S2.tk
            have S3 : Ste B X pins O N ρ { s2 with toks := s2.toks + 1 } := S2.step (S2.inv.tok _) (Le.kept (fun _ _ e => e) (Nat.le_succ _))
            have lt : Le X s { s2 with toks := s2.toks + 1 } := (p2.trans q2).trans (Le.kept (fun _ _ e => e) (Nat.le_succ _))
            have hz : (l.filter fun x => x != c).length ≤ sizeLine ∧ okc (l.filter fun x => x != c) = true := ⟨Nat.le_trans (List.length_filter_le _ _) z.1, okc_sub z.2 fun x hx => (List.mem_filter.mp hx).1⟩
            have hl : Builtin.Str.tooLong ((tS l).length + (Builtin.Str.occurrences (tS l) (tS [c]) 0 (tS l).length ((tS l).length + 1)).length * (tS []).length) = false := by
              unfold Builtin.Str.tooLong
              rw [sizeLine_eq]
              refine decide_eq_false ?_
              rw [tS_len, tS_len]
              simp
              omega
            have e := repl_tS l c
            unfold Txt.replace at e
            refine call_gives PySem.F.slot_str_replace (typeIs_str _ _ _) PySem.F.entry_str_replace (PySem.F.args_str_replace_3 _ _ _) (gives_str_replace (tS l) (tS [c]) (tS []) t t' s2.toks fun _ => ⟨?_, ?_, ?_, hl⟩) ?_
            · simp only [Bool.or_eq_false_iff, beq_eq_false_iff_ne]
              exact ⟨u0, Nat.ne_of_gt tk2⟩
            · exact beq_eq_false_iff_ne.mpr (Nat.ne_of_lt u1)
            · rfl
            · show Made.post (if ((Builtin.Str.occurrences (tS l) (tS [c]) 0 (tS l).length ((tS l).length + 1)).isEmpty || ((tS [c]).length == 0 && (tS []).length == 0)) = true then Made.val (.str (tS l) t) else Made.str _) _ _
              by_cases q : ((Builtin.Str.occurrences (tS l) (tS [c]) 0 (tS l).length ((tS l).length + 1)).isEmpty || ((tS [c]).length == 0 && (tS []).length == 0)) = true
              · rw [if_pos q]
                rw [if_pos (by exact q)] at e
                have e2 : l = l.filter fun x => x != c := by simpa using congrArg (fun z : Str => z.cps.toList) e
                rw [← e2]
                exact (pst_now S3 (.str l t (g.mono (Nat.le_trans q2.2 (Nat.le_succ _))) z)).later lt
              · rw [if_neg q]
                rw [if_neg (by exact q)] at e
                rw [show (Builtin.Str.glued (tS []) (Builtin.Str.partsBetween (tS l) (Builtin.Str.occurrences (tS l) (tS [c]) 0 (tS l).length ((tS l).length + 1)) (tS [c]).length)) = tS (l.filter fun x => x != c) from e]
                obtain ⟨w1, w2⟩ := post_str S3 hz
                exact ⟨w1, w2.later lt⟩
        | _ => exact True.intro
  | _ => cases hx
theorem firstEq_err (x : D) : ∀ (l : List D) (n c : Nat), firstEq x n l ≠ .err c
  | [], _, _, e => nomatch e
  | d :: ds, n, c, e => by
    rw [firstEq] at e
    cases h : eqB d x with
    | true =>
      rw [h] at e
      cases e
    | false =>
      rw [h] at e
      exact firstEq_err x ds (n + 1) c e
theorem firstEq_spec (x : D) : ∀ (l : List D) (n j : Nat), firstEq x n l = .ok j → ∃ y, l[j - n]? = some y ∧ eqB y x = true ∧ ∀ (m : Nat) z, m < j - n → l[m]? = some z → eqB z x = false
  | [], _, _, e => nomatch e
  | d :: ds, n, j, e => by
    rw [firstEq] at e
    cases h : eqB d x with
    | true =>
      rw [h] at e
      cases e
      exact ⟨d, by simp, h, fun m z hm => by omega⟩
    | false =>
      rw [h] at e
      obtain ⟨y, h1, h2, h3⟩ := firstEq_spec x ds (n + 1) j e
      have hj : n + 1 ≤ j := firstEq_le x ds (n + 1) j e
      have hs : j - n = (j - (n + 1)) + 1 := by omega
      refine ⟨y, by rw [hs, List.getElem?_cons_succ]; exact h1, h2, fun m z hm hz => ?_⟩
      cases m with
      | zero =>
        cases hz
        exact h
      | succ m =>
        rw [List.getElem?_cons_succ] at hz
        exact h3 m z (by omega) hz
where
  firstEq_le (x : D) : ∀ (l : List D) (n j : Nat), firstEq x n l = .ok j → n ≤ j
  | [], _, _, e => nomatch e
  | d :: ds, n, j, e => by
    rw [firstEq] at e
    cases h : eqB d x with
    | true =>
      rw [h] at e
      cases e
      exact Nat.le_refl _
    | false =>
      rw [h] at e
      exact Nat.le_of_succ_le (firstEq_le x ds (n + 1) j e)
theorem sm_index (hu : X.A.units + 66 < cLine) : SMt B X .index := by
  intro pins O N ρ s d v ds us S h1 h2 hx
  show Gw B X (Wm X (call (.builtin "list.index") (v :: us)) s) _ _
  cases h1 with
  | @list ad its ep l no e z r =>
    cases h2 with
    | nil => exact True.intro
    | @cons u us x ds h2 t2 =>
      cases t2 with
      | cons _ _ => exact True.intro
      | nil =>
        refine Gw.guard fun hs => ?_
        rw [Bool.and_eq_true] at hs
        refine Gw.pure (fun j hj => ?_) (firstEq_err x l 0)
        obtain ⟨y, hy, ey, before⟩ := firstEq_spec x l 0 j hj
        obtain ⟨⟨bs, r1⟩, c1, d1⟩ := reads_canLay_of 59 h2 hs.1
        obtain ⟨⟨as, r2⟩, c2, d2⟩ := reads_canLay_of 60 (DV.list no e z r) hs.2
        simp only [pd, PyData.canLay0, PyData.depth] at c2 d2 r2
        have hroom : X.A.units + 1 + min (PyData.depthAll (pdL l)) (pd x).depth < cLine := by
          have := Nat.min_le_right (PyData.depthAll (pdL l)) (pd x).depth
          omega
        cases r2 with
        | list g1 g2 g3 h4 =>
          rw [e] at g1
          cases g1
          cases g3
          have h4' : ReadsAll s.heap its (pdL l) _ := h4
          have hmap : its.map (SeqAt.readOf s.heap) = pdL l := SeqAt.readsAll_map (pdL l) its _ c2 h4'
          have hlen := r.length
          have hsl := sizeLine_eq
          have hjl : j < its.length := by
            rw [hlen]
            exact (List.getElem?_eq_some_iff.mp hy).1
          have at_ : ∀ (m : Nat) (hm : m < its.toArray.size) (z' : D), l[m]? = some z' → SeqAt.readOf s.heap its.toArray[m] = pd z' := by
            intro m hm z' hz'
            have hml : m < its.length := by simpa using hm
            have e1 : (its.map (SeqAt.readOf s.heap))[m]? = some (pd z') := by
              rw [hmap, pdL_map, List.getElem?_map, hz']
              rfl
            rw [List.getElem?_map, List.getElem?_eq_getElem hml] at e1
            simpa using e1
          have hall : ∀ (m : Nat) (z' : D), l[m]? = some z' → shp 59 z' = true := fun m z' hz' => List.all_eq_true.mp hs.2 z' (List.mem_of_getElem? hz')
          refine call_meets PySem.F.slot_list_index ⟨_, e, rfl⟩ PySem.F.entry_list_index (PySem.F.args_list_index_2 _ _)
            (SeqAt.list_indexAt ad its.toArray ep none #[] u (fun u => PyData.eqv (SeqAt.readOf s.heap u) (pd x)) j (by simpa using hjl) (by omega) ?_ ?_) ⟨e, SeqAt.items_eqAt (vs := its.toArray) (show ReadsAll s.heap its.toArray.toList (pdL l) _ from h4) r1 c2 c1 hroom, ?_⟩
          · show PyData.eqv (SeqAt.readOf s.heap its.toArray[j]) (pd x) = true
            rw [at_ j (by simpa using hjl) y hy, eqv_pd y x 59 59 (hall j y hy) hs.1]
            exact ey
          · intro m hm hmj
            have hmd : m < l.length := by
              rw [← hlen]
              simpa using hm
            have hz' : l[m]? = some l[m] := List.getElem?_eq_getElem hmd
            show PyData.eqv (SeqAt.readOf s.heap its.toArray[m]) (pd x) = false
            rw [at_ m hm _ hz', eqv_pd _ x 59 59 (hall m _ hz') hs.1]
            exact before m _ hmj hz'
          · exact pst_int S (Nat.le_succ _)
  | _ => cases hx
end
end Ev
namespace Ev
open PySem PySem.Spec PyProof.Rows L2
section
variable {B : Bk} {X : Cx} {pins : List (Addr × Obj)} {O : Addr → Prop} {N : List Str} {ρ : List Sl} {s s' : Shared} {F : Fx}
theorem ix_lt {x : Str} : ∀ {N : List Str}, x ∈ N → ix x N < N.length
  | y :: r, h => by
    unfold ix
    split
    · simp
    · rename_i hn
      rcases List.mem_cons.mp h with e | h
      · exact absurd e.symm hn
      · simp only [List.length_cons]
        exact Nat.succ_lt_succ (ix_lt h)
theorem ix_inj {x y : Str} : ∀ {N : List Str}, x ∈ N → ix y N = ix x N → y = x
  | z :: r, h, e => by
    unfold ix at e
    by_cases h1 : z = x
    · rw [if_pos h1] at e
      by_cases h2 : z = y
      · exact h2.symm.trans h1
      · rw [if_neg h2] at e
        exact absurd e (Nat.succ_ne_zero _)
    · rw [if_neg h1] at e
      by_cases h2 : z = y
      · rw [if_pos h2] at e
        exact absurd e.symm (Nat.succ_ne_zero _)
      · rw [if_neg h2] at e
        rcases List.mem_cons.mp h with e' | h
        · exact absurd e'.symm h1
        · exact ix_inj h (Nat.succ.inj e)
/-- one object of ours (the frame, a cell) was written -/
theorem Inv.wrote {H : Hp} {a : Addr} (I : Inv X pins [] H s) (hs : Heap.SameBut a s.heap s'.heap) (ho : s'.os = s.os) (hg : s'.gens = s.gens)
    (ha : X.s_0.heap.objs.size ≤ a) (hn : H a = none) (hl : ∃ m, s'.heap.Ns X.env.locals m) (hc : ∀ x c, X.env.cells.lookup x = some c → ∃ v, s'.heap.IsCell c v) (hp : ∀ p ∈ X.pn ++ pins, p.1 ≠ a) : Inv X pins [] H s' := by
  have ne : ∀ b o, X.s_0.heap.get? b = some o → b ≠ a := fun b o e => Nat.ne_of_lt (Nat.lt_of_lt_of_le (Heap.lt_size e) ha)
  obtain ⟨m, hm⟩ := hl
  refine ⟨I.ok, by rw [ho]; exact I.os, by rw [hg]; exact I.bare, ⟨fun b o e n hb hx => (hs.2 b (ne b o e)).trans (I.base.keep b o e n hb hx), fun b o e n hb hx => ?_, I.base.free, fun b o e hx => ?_, I.base.tups, I.base.frzs, I.base.tbls⟩,
    ⟨m, hm, fun i x v _ e2 _ => by simp at e2⟩, hc, I.free, I.freeC, fun p hq => ?_, fun b ob e => ?_, I.len⟩
  · obtain ⟨sl, e1⟩ := I.base.slot b o e n hb hx
    exact ⟨sl, (hs.2 b (ne b o e)).trans e1⟩
  · obtain ⟨o', e1⟩ := I.base.there b o e hx
    exact ⟨o', (hs.2 b (ne b o e)).trans e1⟩
  · obtain ⟨e, n, ne', nf, d⟩ := I.pin p hq
    exact ⟨(hs.2 p.1 (hp p hq)).trans e, n, ne', nf, d⟩
  · refine (I.hok b ob e).stay (fun c w' hc q => (hs.2 c ?_).trans q) (fun _ q => q) fun _ _ q => q
    rintro rfl
    rcases hc with rfl | hc
    · rw [hn] at e; cases e
    · rw [hn] at hc; cases hc
/-- a name's value -/
def Lk (X : Cx) (s : Shared) (y : Str) (w : Value) : Prop := ∃ m, s.heap.Ns X.env.locals m ∧ Look X.env s.heap m y w
/-- what a store leaves: one object of the frame's own changed -/
def Wr (X : Cx) (x : Str) (s s' : Shared) : Prop := ∃ a, Heap.SameBut a s.heap s'.heap ∧ (a = X.env.locals ∨ (X.env.cells.lookup x = some a ∧ X.env.scope.names.lookup x = some .cell)) ∧ s.toks ≤ s'.toks ∧ (∃ o, s'.heap.get? a = some o) ∧ ∀ y w, y ≠ x → Lk X s y w → Lk X s' y w
/-- a name may be written here -/
def Wrt (X : Cx) (x : Str) : Prop := X.env.scope.names.lookup x = some .local ∨ (X.env.scope.names.lookup x = some .cell ∧ X.fn x = true)
theorem DV.wr {a : Addr} {u : Value} {d : D} {n' : Nat} {h' : Heap} (h : DV B O s.heap s.toks u d) (ha : O a) (hs : Heap.SameBut a s.heap h') (q : s.toks ≤ n') : DV B O h' n' u d :=
  h.mono (fun b o no e => (hs.2 b fun z => no (z ▸ ha)).trans e) q fun _ z => z
theorem DVs.wr {a : Addr} {u : List Value} {d : List D} {n' : Nat} {h' : Heap} (h : DVs B O s.heap s.toks u d) (ha : O a) (hs : Heap.SameBut a s.heap h') (q : s.toks ≤ n') : DVs B O h' n' u d :=
  h.mono (fun b o no e => (hs.2 b fun z => no (z ▸ ha)).trans e) q fun _ z => z
/-- x = u, u raw; the slot of x is forgotten -/
theorem store_raw {M : Model} {A : Around} {E : Value → Shared → Prop} {x : Str} {u : Value} (S : Ste B X pins O N ρ s) (hw : Wrt X x) (hx : x ∈ N) (hO : ∀ c, X.env.cells.lookup x = some c → X.env.scope.names.lookup x = some .cell → O c) :
    wpAny M A (storeName X.env x u) (fun _ s' => Ste B X pins O N (ρ.set (ix x N) .un) s' ∧ Wr X x s s' ∧ (∃ m, s'.heap.Ns X.env.locals m ∧ Look X.env s'.heap m x u ∧ EnvD B X.env O s' m N (ρ.set (ix x N) .un)) ∧ (∀ a, (a = X.env.locals ∨ X.env.cells.lookup x = some a ∧ X.env.scope.names.lookup x = some .cell) → O a)) E s := by
  obtain ⟨m, hn, he⟩ := S.env
  have I := S.inv
  have hcls : (X.env.scope.kind == .class || (X.env.scope.kind == .module && X.env.locals != X.env.globals)) = false := by rw [I.ok.kind]; rfl
  have hOL : O X.env.locals := S.fr _ List.mem_cons_self
  have hOa : ∀ a, (a = X.env.locals ∨ X.env.cells.lookup x = some a ∧ X.env.scope.names.lookup x = some .cell) → O a := fun a ha => by
    rcases ha with e | ⟨e1, e2⟩
    · rw [e]; exact hOL
    · exact hO a e1 e2
  have oth : ∀ {y : Str} {d : D}, (ρ.set (ix x N) .un)[ix y N]? = some (.dat d) → y ≠ x ∧ ρ[ix y N]? = some (.dat d) := fun {y d} e => by
    have hyx : y ≠ x := fun z => by
      subst z
      by_cases hl : ix y N < ρ.length
      · rw [List.getElem?_set_self hl] at e; cases e
      · rw [List.getElem?_eq_none (by simpa using hl)] at e; cases e
    refine ⟨hyx, ?_⟩
    rw [List.getElem?_set_ne fun z => hyx (ix_inj hx z.symm)] at e
    exact e
  rcases hw with hk | ⟨hk, hfn⟩
  · refine wpAny_storeName_local hk hn (fun h' hn' hs => ?_) hcls
    have hs : Heap.SameBut X.env.locals s.heap h' := hs
    have hL : ∃ o, h'.get? X.env.locals = some o := let ⟨o, _, _, e, _⟩ := hn'; ⟨o, e⟩
    have I' : Inv X pins [] X.H_0 { s with heap := h', toks := s.toks + 1 } := Inv.wrote (s' := { s with heap := h', toks := s.toks + 1 }) I hs rfl rfl I.ok.above I.free ⟨_, hn'⟩
      (fun y c e => let ⟨w', z⟩ := I.cell y c e; ⟨w', z.sameBut hs (I.cne y c e)⟩) fun p hp => (I.pin p hp).2.2.1
    have hE : EnvD B X.env O { s with heap := h', toks := s.toks + 1 } (fun y => if y = x then some u else m y) N (ρ.set (ix x N) .un) := fun y d n e v => by
      obtain ⟨hyx, e⟩ := oth e
      obtain ⟨w, hw, hd⟩ := he y d n e v
      refine ⟨w, ?_, hd.wr hOL hs (Nat.le_succ _)⟩
      rcases hw with ⟨k, q⟩ | ⟨k, c, q, z⟩
      · exact .inl ⟨k, by simp [hyx, q]⟩
      · exact .inr ⟨k, c, q, z.sameBut hs (I.cne y c q)⟩
    exact ⟨⟨I', Nat.le_succ_of_le S.tk, S.fr, fun b hb => by
      obtain ⟨o, e⟩ := S.dom b hb
      by_cases hbL : b = X.env.locals
      · subst hbL; exact hL
      · exact ⟨o, (hs.2 b hbL).trans e⟩, _, hn', hE⟩, ⟨_, hs, .inl rfl, Nat.le_succ _, hL, fun y w hyx ⟨m2, hn2, l2⟩ => ⟨_, hn', by
      rw [show m2 = m from funext fun y => hn2.agree hn y] at l2
      rcases l2 with ⟨k, q⟩ | ⟨k, c, q, z⟩
      · exact .inl ⟨k, by simp [hyx, q]⟩
      · exact .inr ⟨k, c, q, z.sameBut hs (I.cne y c q)⟩⟩⟩, ⟨_, hn', .inl ⟨hk, by simp⟩, hE⟩, hOa⟩
  · obtain ⟨c, hc⟩ := I.ok.has x (.inl hk)
    obtain ⟨w', z⟩ := I.cell x c hc
    refine wpAny_storeName_cell I.ok.kind hk hc z (fun h' hc' hs => ?_)
    have hs : Heap.SameBut c s.heap h' := hs
    obtain ⟨oc, hoc, hocd⟩ := id z
    have hL : ∃ o, h'.get? c = some o := let ⟨o, e, _⟩ := hc'; ⟨o, e⟩
    have hOc := hO c hc hk
    have I' : Inv X pins [] X.H_0 { s with heap := h' } := Inv.wrote (s' := { s with heap := h' }) I hs rfl rfl (I.ok.cab x c hfn hc) (I.freeC x c hc) ⟨m, hn.sameBut hs (Ne.symm (I.cne x c hc))⟩
      (fun y c' e => by
        by_cases hcc : c' = c
        · subst hcc; exact ⟨_, hc'⟩
        · obtain ⟨w2, z2⟩ := I.cell y c' e
          exact ⟨w2, z2.sameBut hs hcc⟩) fun p hp q => by
        obtain ⟨e, n, ne, nf, d⟩ := I.pin p hp
        rw [q, hoc] at e
        have q' : oc = p.2 := Option.some.inj e
        exact d w' (by rw [← q']; exact hocd)
    have hE : EnvD B X.env O { s with heap := h' } m N (ρ.set (ix x N) .un) := fun y d n e v => by
      obtain ⟨hyx, e⟩ := oth e
      obtain ⟨w, hw, hd⟩ := he y d n e v
      refine ⟨w, ?_, hd.wr hOc hs (Nat.le_refl _)⟩
      rcases hw with q | ⟨k, c', q, z'⟩
      · exact .inl q
      · refine .inr ⟨k, c', q, z'.sameBut hs ?_⟩
        rintro rfl
        exact hyx (I.ok.inj _ _ _ q hc)
    exact ⟨⟨I', S.tk, S.fr, fun b hb => by
      obtain ⟨o, e⟩ := S.dom b hb
      by_cases hbL : b = c
      · subst hbL; exact hL
      · exact ⟨o, (hs.2 b hbL).trans e⟩, m, hn.sameBut hs (Ne.symm (I.cne x c hc)), hE⟩, ⟨_, hs, .inr ⟨hc, hk⟩, Nat.le_refl _, hL, fun y w hyx ⟨m2, hn2, l2⟩ => ⟨m2, hn2.sameBut hs (Ne.symm (I.cne x c hc)), by
      rcases l2 with q | ⟨k, c', q, z'⟩
      · exact .inl q
      · refine .inr ⟨k, c', q, z'.sameBut hs ?_⟩
        rintro rfl
        exact hyx (I.ok.inj _ _ _ q hc)⟩⟩, ⟨m, hn.sameBut hs (Ne.symm (I.cne x c hc)), .inr ⟨.inl hk, c, hc, hc'⟩, hE⟩, hOa⟩
/-- x = u, u plain data -/
theorem store_dat {M : Model} {A : Around} {E : Value → Shared → Prop} {x : Str} {u : Value} {d : D} (S : Ste B X pins O N ρ s) (hw : Wrt X x) (hx : x ∈ N) (hO : ∀ c, X.env.cells.lookup x = some c → X.env.scope.names.lookup x = some .cell → O c) (hd : DV B O s.heap s.toks u d) :
    wpAny M A (storeName X.env x u) (fun _ s' => Ste B X pins O N (ρ.set (ix x N) (.dat d)) s' ∧ Wr X x s s' ∧ (∀ a, (a = X.env.locals ∨ X.env.cells.lookup x = some a ∧ X.env.scope.names.lookup x = some .cell) → O a)) E s := by
  refine thn (store_raw S hw hx hO) fun _ s' ⟨S', w, ⟨m, hn, hl, hE⟩, hOa⟩ => ⟨⟨S'.inv, S'.tk, S'.fr, S'.dom, m, hn, fun y d' n e v => ?_⟩, w, hOa⟩
  by_cases hyx : y = x
  · subst hyx
    have hlt : ix y N < ρ.length := by
      by_cases hl : ix y N < ρ.length
      · exact hl
      · rw [List.getElem?_eq_none (by simpa using hl)] at e; cases e
    rw [List.getElem?_set_self hlt] at e
    cases e
    obtain ⟨a, hs, ha, q, _⟩ := w
    exact ⟨u, hl, hd.wr (hOa a ha) hs q⟩
  · refine hE y d' n ?_ v
    have ne : ix x N ≠ ix y N := fun z => hyx (ix_inj hx z.symm)
    rw [List.getElem?_set_ne ne] at e ⊢
    exact e
end
end Ev
namespace Ev
open PySem PySem.Spec PyProof.Rows L2
/-- names, one behind the other -/
inductive Nms : List Expr → List Str → Prop
  | nil : Nms [] []
  | cons {x : Str} {pos : Pos} {es : List Expr} {xs : List Str} : Nms es xs → Nms (.Name x pos :: es) (x :: xs)
inductive Tg : Expr → List Str → Prop
  | one (x : Str) (pos : Pos) : Tg (.Name x pos) [x]
  | tup {es : List Expr} {xs : List Str} {k : Nat} {pos : Pos} : Nms es xs → xs.length ≠ 1 → Tg (.Tuple es k pos) xs
def putS (N : List Str) : List Sl → List Str → List Sl → List Sl
  | ρ, x :: xs, s :: ss => putS N (ρ.set (ix x N) s) xs ss
  | ρ, _, _ => ρ
theorem ix_app {x : Str} {N : List Str} : ∀ {M : List Str}, x ∉ M → ix x (M ++ x :: N) = M.length
  | [], _ => by simp [ix]
  | y :: M, h => by
    have h1 : ¬ y = x := fun e => h (by rw [e]; exact List.mem_cons_self)
    rw [List.cons_append]
    unfold ix
    rw [if_neg h1, ix_app fun m => h (List.mem_cons_of_mem _ m)]
    rfl
theorem putS_app {N : List Str} {ρ : List Sl} : ∀ {xs M : List Str} {μ o1 o2 : List Sl}, xs.Nodup → (∀ x ∈ xs, x ∉ M) → μ.length = M.length → o1.length = xs.length → o2.length = xs.length → putS (M ++ (xs ++ N)) (μ ++ (o1 ++ ρ)) xs o2 = μ ++ (o2 ++ ρ)
  | [], M, μ, [], [], _, _, _, _, _ => rfl
  | x :: xs, M, μ, a :: o1, b :: o2, hn, hm, hl, h1, h2 => by
    obtain ⟨hx, hn⟩ := List.nodup_cons.mp hn
    have e : ix x (M ++ (x :: xs ++ N)) = μ.length := by rw [hl]; exact ix_app (hm x List.mem_cons_self)
    unfold putS
    rw [e]
    have e1 : (μ ++ (a :: o1 ++ ρ)).set μ.length b = (μ ++ [b]) ++ (o1 ++ ρ) := by simp
    have e2 : M ++ (x :: xs ++ N) = (M ++ [x]) ++ (xs ++ N) := by simp
    have e3 : μ ++ (b :: o2 ++ ρ) = (μ ++ [b]) ++ (o2 ++ ρ) := by simp
    rw [e1, e2, e3]
    refine putS_app hn (fun y hy => ?_) (by simp [hl]) (by simpa using h1) (by simpa using h2)
    intro hm'
    rcases List.mem_append.mp hm' with h | h
    · exact hm y (List.mem_cons_of_mem _ hy) h
    · rw [List.mem_singleton.mp h] at hy
      exact hx hy
theorem bindT_len {n : Nat} {d : D} {own : List Sl} (h : bindT n d = .ok own) : own.length = n := by
  unfold bindT at h
  split at h
  · cases h; rfl
  · rename_i ds _
    cases e : n == ds.length with
    | true =>
      rw [e] at h
      cases h
      rw [List.length_map]
      exact (by simpa using e : n = ds.length).symm
    | false =>
      rw [e] at h
      cases h
  · cases h
theorem bindT_tup {n : Nat} {d : D} {own : List Sl} (hn : n ≠ 1) (h : bindT n d = .ok own) : ∃ ds, d = .tuple ds ∧ n = ds.length ∧ own = ds.map .dat := by
  unfold bindT at h
  split at h
  · exact absurd rfl hn
  · rename_i ds _
    cases e : n == ds.length with
    | true =>
      rw [e] at h
      cases h
      exact ⟨ds, rfl, by simpa using e, rfl⟩
    | false =>
      rw [e] at h
      cases h
  · cases h
/-- what is handed to a target of n names -/
def IT (B : Bk) (O : Addr → Prop) (n : Nat) (v : Value) (d : D) (s : Shared) : Prop :=
  (n = 1 → DV B O s.heap s.toks v d) ∧ (n ≠ 1 → ∀ ds, d = .tuple ds → n = ds.length → ∃ T vals, v = .ref T ∧ s.heap.IsTuple T (List.toArray vals) ∧ DVs B O s.heap s.toks vals ds)
/-- objects that may change: all else stays (frames up to their slots) -/
def Lz (X : Cx) (Z : Addr → Prop) (s s' : Shared) : Prop :=
  (∀ b o, s.heap.get? b = some o → ¬ Z b → (b ∉ X.env.locals :: X.fs → s'.heap.get? b = some o) ∧ ∃ sl, s'.heap.get? b = some { o with slots := sl }) ∧ s.toks ≤ s'.toks
/-- the frame's own: its names, its cells -/
def Zx (X : Cx) (b : Addr) : Prop := b = X.env.locals ∨ ∃ x, X.env.cells.lookup x = some b ∧ X.env.scope.names.lookup x = some .cell ∧ X.fn x = true
section
variable {B : Bk} {X : Cx} {pins : List (Addr × Obj)} {O Z : Addr → Prop} {N : List Str} {ρ : List Sl} {s s1 s2 s' : Shared} {F : Fx}
theorem Lz.refl : Lz X Z s s := ⟨fun b o e _ => ⟨fun _ => e, o.slots, e⟩, Nat.le_refl _⟩
theorem Lz.trans (a : Lz X Z s s1) (b : Lz X Z s1 s2) : Lz X Z s s2 := ⟨fun c o e n => by
  refine ⟨fun hc => (b.1 c o ((a.1 c o e n).1 hc) n).1 hc, ?_⟩
  obtain ⟨sl, q⟩ := (a.1 c o e n).2
  obtain ⟨sl', q'⟩ := (b.1 c _ q n).2
  exact ⟨sl', q'⟩, Nat.le_trans a.2 b.2⟩
theorem Le.lz (l : Le X s s1) : Lz X Z s s1 := ⟨fun b o e _ => l.1 b o e, l.2⟩
theorem Lz.mono {Z' : Addr → Prop} (a : Lz X Z s s1) (h : ∀ b, Z b → Z' b) : Lz X Z' s s1 := ⟨fun b o e n => a.1 b o e fun z => n (h b z), a.2⟩
theorem Lz.same {a : Addr} (ha : Z a) (hs : Heap.SameBut a s.heap s'.heap) (q : s.toks ≤ s'.toks) : Lz X Z s s' := ⟨fun b o e n => by
  have ne : b ≠ a := fun z => n (z ▸ ha)
  have e' := (hs.2 b ne).trans e
  exact ⟨fun _ => e', o.slots, e'⟩, q⟩
theorem IT.of {n : Nat} {v : Value} {d : D} (h : DV B O s.heap s.toks v d) : IT B O n v d s := ⟨fun _ => h, fun _ ds e _ => by
  subst e
  cases h with
  | tuple no e z r => exact ⟨_, _, rfl, ⟨_, e, rfl, _, rfl⟩, r⟩⟩
theorem wr_lz {x : Str} (hw : Wrt X x) (w : Wr X x s s') : Lz X (Zx X) s s' := by
  obtain ⟨a, hs, ha, q, _⟩ := w
  refine Lz.same (a := a) ?_ hs q
  rcases ha with e | ⟨e1, e2⟩
  · exact .inl e
  · refine .inr ⟨x, e1, e2, ?_⟩
    rcases hw with k | ⟨_, k⟩
    · rw [e2] at k; cases k
    · exact k
theorem Wr.dats {x : Str} {us : List Value} {ds : List D} (w : Wr X x s s') (hO : ∀ a, (a = X.env.locals ∨ X.env.cells.lookup x = some a ∧ X.env.scope.names.lookup x = some .cell) → O a) (h : DVs B O s.heap s.toks us ds) : DVs B O s'.heap s'.toks us ds := by
  obtain ⟨a, hs, ha, q, _⟩ := w
  exact h.wr (hO a ha) hs q
theorem Wrt.fn {x : Str} (w : Wrt X x) (k : X.env.scope.names.lookup x = some .cell) : X.fn x = true := by
  rcases w with k' | ⟨_, k'⟩
  · rw [k] at k'; cases k'
  · exact k'
/-- other names keep their values -/
def Kl (X : Cx) (ts : List Str) (s s' : Shared) : Prop := ∀ y w, y ∉ ts → Lk X s y w → Lk X s' y w
theorem Le.lk {y : Str} {w : Value} (l : Le X s s1) (h : Lk X s y w) : Lk X s1 y w := let ⟨m, hn, hl⟩ := h; ⟨m, l.ns hn, l.look hl⟩
theorem Kl.trans {ts ts' us : List Str} (a : Kl X ts s s1) (b : Kl X ts' s1 s2) (h : ∀ y, y ∉ us → y ∉ ts ∧ y ∉ ts') : Kl X us s s2 := fun y w hy l => b y w (h y hy).2 (a y w (h y hy).1 l)
theorem Wr.kl {x : Str} (w : Wr X x s s') : Kl X [x] s s' := fun y v hy l => let ⟨_, _, _, _, _, k⟩ := w; k y v (fun e => hy (by simp [e])) l
theorem asg_names {E : Value → Shared → Prop} : ∀ {es : List Expr} {xs : List Str} {us : List Value} {ds : List D} {ρ : List Sl} {s : Shared}, Nms es xs → (∀ x ∈ xs, Wrt X x ∧ x ∈ N) → (∀ c, Zx X c → O c) → us.length = xs.length → Ste B X pins O N ρ s → DVs B O s.heap s.toks us ds →
    wpAny (model X.prog X.w) X.A (assignInOrder ((assignEach es X.env).map (·.2)) us) (fun _ s' => Ste B X pins O N (putS N ρ xs (ds.map .dat)) s' ∧ Lz X (Zx X) s s' ∧ Kl X xs s s') E s
  | _, _, us, _, ρ, s, .nil, _, _, hl, S, h => by
    cases us with
    | nil =>
      cases h
      exact assignInOrder_nil ⟨S, Lz.refl, fun _ _ _ l => l⟩
    | cons _ _ => simp at hl
  | _, _, us, ds, ρ, s, .cons (x := x) (xs := xs) nm, hw, hO, hl, S, h => by
    cases us with
    | nil => simp at hl
    | cons u us =>
      cases h with
      | cons hd hr =>
        obtain ⟨w1, w2⟩ := hw x List.mem_cons_self
        refine assignInOrder_cons (wpAny_assign_Name (thn (store_dat S w1 w2 (fun c e k => hO c (.inr ⟨x, e, k, w1.fn k⟩)) hd) fun _ s1 ⟨S1, w, hOa⟩ => ?_))
        refine thn (asg_names nm (fun y hy => hw y (List.mem_cons_of_mem _ hy)) hO (by simpa using hl) S1 (w.dats hOa hr)) fun _ s2 ⟨S2, l, kl⟩ => ?_
        exact ⟨S2, (wr_lz w1 w).trans l, w.kl.trans kl fun y hy => ⟨fun z => hy (by rw [List.mem_singleton.mp z]; exact List.mem_cons_self), fun z => hy (List.mem_cons_of_mem _ z)⟩⟩
theorem asg_tg {E : Value → Shared → Prop} {tg : Expr} {xs : List Str} {v : Value} {d : D} {own : List Sl} (hc : X.calm = true) (S : Ste B X pins O N ρ s) (t : Tg tg xs) (hw : ∀ x ∈ xs, Wrt X x ∧ x ∈ N) (hO : ∀ c, Zx X c → O c) (hi : IT B O xs.length v d s) (hb : bindT xs.length d = .ok own) :
    wpAny (model X.prog X.w) X.A (assign tg X.env v) (fun _ s' => Ste B X pins O N (putS N ρ xs own) s' ∧ Lz X (Zx X) s s' ∧ Kl X xs s s') E s := by
  cases t with
  | one x pos =>
    have e : own = [.dat d] := by
      cases hb
      rfl
    subst e
    obtain ⟨w1, w2⟩ := hw x List.mem_cons_self
    refine wpAny_assign_Name (thn (store_dat S w1 w2 (fun c e k => hO c (.inr ⟨x, e, k, w1.fn k⟩)) (hi.1 rfl)) fun _ s1 ⟨S1, w, _⟩ => ⟨S1, wr_lz w1 w, w.kl⟩)
  | tup nm hl =>
    rename_i es k pos
    obtain ⟨ds, e1, e2, e3⟩ := bindT_tup hl hb
    subst e3
    obtain ⟨T, vals, ev, hT, hd⟩ := hi.2 hl ds e1 e2
    subst ev
    have hlen : (assignEach es X.env).length = xs.length ∧ (assignEach es X.env).findIdx? (·.1) = none := by
      clear hw hi hb e2 hl
      induction nm with
      | nil => exact ⟨rfl, rfl⟩
      | cons nm ih =>
        refine ⟨by show _ + 1 = _; rw [ih.1]; rfl, ?_⟩
        show List.findIdx? (·.1) ((false, _) :: _) = none
        rw [List.findIdx?_cons]
        simp only [ih.2]
        rfl
    have hvl : vals.length = xs.length := by rw [hd.length, e2]
    refine wpAny_assign_Tuple (S.inv.ok.hd hc) hT (by rw [hlen.1, List.size_toArray, hvl]) hlen.2 fun h' hx => ?_
    have kp : ∀ b o, s.heap.get? b = some o → h'.get? b = some o := fun b o e => hx b o (Nat.ne_of_lt (Heap.lt_size e)) e
    have l : Le X s { s with heap := h' } := Le.kept kp (Nat.le_refl _)
    have S1 : Ste B X pins O N ρ { s with heap := h' } := S.step (S.inv.kept (t' := s.toks) kp) l
    rw [List.toList_toArray]
    exact thn (asg_names nm hw hO hvl S1 (l.dats S.fr hd)) fun _ s2 ⟨S2, l2, kl⟩ => ⟨S2, (Le.lz l).trans l2, fun y w hy q => kl y w hy (l.lk q)⟩
end
end Ev
namespace PySem
open Sem (wp)
/-- an iterator: what it draws, by the turn and the count of tokens behind it -/
structure DrT (prog : Program) (w : World) (A : Around) (it : Addr) (fp : List Addr) (n : Nat) (P : Nat → Value → Nat → Prop) (St : Nat → Heap → Prop) : Prop where
  dr : Draws prog w A it fp n (fun _ _ => True) St
  mono : ∀ i v t t', t ≤ t' → P i v t → P i v t'
  item : ∀ i (s : Shared) (Q : Value → Shared → Prop) (E : Value → Shared → Prop), i < n → St i s.heap → 1 ≤ s.toks →
    (∀ x h' tk, s.toks ≤ tk → P i x tk → St (i + 1) h' → Heap.SameBut it s.heap h' → Q x { s with heap := h', toks := tk }) → wpAny (model prog w) A (Builtin.SmallTypes.nextOf (.ref it)) Q E s
theorem DrT.of {prog : Program} {w : World} {A : Around} {it : Addr} {fp : List Addr} {n : Nat} {P : Nat → Value → Prop} {St : Nat → Heap → Prop} (D : Draws prog w A it fp n P St) : DrT prog w A it fp n (fun i v _ => P i v) St where
  dr := ⟨D.live, D.frame, fun i s Q E hi st hQ => D.item i s Q E hi st fun x h' tk _ st' hs => hQ x h' tk trivial st' hs, D.done⟩
  mono := fun _ _ _ _ _ h => h
  item := fun i s Q E hi st _ hQ => wpAny_with_toks (n := s.toks) (Nat.le_refl _) (D.item i s _ _ hi st fun x h' tk p st' hs q => hQ x h' tk q p st' hs)
/-- a sign of a text, its token given out -/
def SignT (x : Str) (i : Nat) (v : Value) (n : Nat) : Prop := ∃ c u, x.cps[i]? = some c ∧ v = .str ⟨#[c]⟩ u ∧ 1 ≤ u ∧ u < n
theorem DrT.text {prog : Program} {w : World} {A : Around} (hh : A.handled = none) (it : Addr) (x : Str) (t : Tok) :
    DrT prog w A it [it] x.cps.size (SignT x) (fun i h => h.IsStrIter it (strIterType x) x t i) := by
  cases ha : x.cps.all (· < 128)
  · simp only [strIterType, ha, Bool.false_eq_true, if_false]
    refine ⟨(DrT.of (Draws.strWide hh it x t)).dr,
      fun i v t t' q ⟨c, u, h1, h2, h3, h4⟩ => ⟨c, u, h1, h2, h3, Nat.lt_of_lt_of_le h4 q⟩, fun i s Q E hi st ht hQ => ?_⟩
    refine wpAny_nextOf_wide_item st (c := x.cps[i]) (by simp [hi]) fun h' hit' hs' => ?_
    exact hQ _ h' (s.toks + 1) (Nat.le_succ _) ⟨_, _, by simp [hi], rfl, ht, Nat.lt_succ_self _⟩ hit' hs'
  · simp only [strIterType, ha, if_true]
    refine ⟨(DrT.of (Draws.strAscii hh it x t)).dr,
      fun i v t t' q ⟨c, u, h1, h2, h3, h4⟩ => ⟨c, u, h1, h2, h3, Nat.lt_of_lt_of_le h4 q⟩, fun i s Q E hi st ht hQ => ?_⟩
    refine wpAny_nextOf_ascii_item st (c := x.cps[i]) (by simp [hi]) fun h' hit' hs' => ?_
    exact hQ _ h' (s.toks + 1) (Nat.le_succ _) ⟨_, _, by simp [hi], rfl, ht, Nat.lt_succ_self _⟩ hit' hs'
/-- KE's Goes with tokens -/
structure Wk (prog : Program) (w : World) (A : Around) (target : Expr) (I : Addr) (fp wr : List Addr) (n : Nat) (Y : Nat → Value → Heap → Nat → Prop) (St : Nat → Heap → Prop) : Prop where
  sub : ∀ b ∈ wr, b ∈ fp
  live : ∀ i h, St i h → ∀ b ∈ wr, ∃ o, h.get? b = some o
  frame : ∀ i h h', St i h → (∀ b ∈ fp, ∀ o, h.get? b = some o → h'.get? b = some o) → St i h'
  goes : ∀ i (s : Shared) (Q : Value → Shared → Prop) (E : Value → Shared → Prop), i < n → St i s.heap → 1 ≤ s.toks →
    (∀ v h' tk, Y i v h' tk → St (i + 1) h' → (∀ b o, b ∉ wr → s.heap.get? b = some o → h'.get? b = some o) → s.toks ≤ tk → Q v { s with heap := h', toks := tk }) →
    wpAny (model prog w) A (pyNext (.ref I)) (fun r s₁ => ∃ v, r = some v ∧ wpAny (model prog w) A (letOwnedTupleGo target (.ref I) v) (fun _ s₂ => Q v s₂) E s₁) E s
  stops : ∀ (s : Shared) (Q : Shared → Prop) (E : Value → Shared → Prop), St n s.heap →
    (∀ h' tk, (∀ b o, b ∉ wr → s.heap.get? b = some o → h'.get? b = some o) → s.toks ≤ tk → Q { s with heap := h', toks := tk }) → wpAny (model prog w) A (pyNext (.ref I)) (fun r s₁ => r = none ∧ Q s₁) E s
  self : ∀ i (s : Shared) (Q : Value → Shared → Prop) (E : Value → Shared → Prop), St i s.heap → Q (.ref I) s → wpAny (model prog w) A (pyIter (.ref I)) Q E s
theorem Wk.of {prog : Program} {w : World} {A : Around} {target : Expr} {I : Addr} {fp wr : List Addr} {n : Nat} {Y : Nat → Value → Heap → Prop} {St : Nat → Heap → Prop} (W : Goes prog w A target I fp wr n Y St) (live : ∀ i h, St i h → ∀ b ∈ wr, ∃ o, h.get? b = some o) : Wk prog w A target I fp wr n (fun i v h _ => Y i v h) St :=
  ⟨W.sub, live, W.frame, fun i s Q E hi st _ hQ => W.goes i s Q E hi st hQ, W.stops, W.self⟩
theorem Wk.text {prog : Program} {w : World} {A : Around} {target : Expr} (hh : A.handled = none) (I : Addr) (x : Str) (t : Tok) : Wk prog w A target I [I] [I] x.cps.size (fun i v _ n => SignT x i v n) (fun i h => h.IsStrIter I (strIterType x) x t i) := by
  have G := Goes.text (prog := prog) (w := w) (A := A) (target := target) hh I x t
  refine ⟨G.sub, fun i h ⟨o, e, _⟩ b hb => ⟨o, by rw [List.mem_singleton.mp hb]; exact e⟩, G.frame, fun i s Q E hi st ht hQ => ?_, G.stops, G.self⟩
  have key : ∀ (ty : String) (h' : Heap), (["enumerate", "zip", "dict_itemiterator", "dict_reverseitemiterator", "odict_iterator", "itertools.zip_longest", "itertools.pairwise"].contains ty) = false → h'.IsStrIter I ty x t (i + 1) → strIterType x = ty → Heap.SameBut I s.heap h' →
      ∃ v, some (Value.str ⟨#[x.cps[i]]⟩ s.toks) = some v ∧ wpAny (model prog w) A (letOwnedTupleGo target (.ref I) v) (fun _ s₂ => Q v s₂) E { s with heap := h', toks := s.toks + 1 } := fun ty h' hn hit' ety hs' => by
    refine ⟨_, rfl, ?_⟩
    obtain ⟨o, ho, hc, hd⟩ := id hit'
    exact letGo_of_cls (s := { s with heap := h', toks := s.toks + 1 }) ho hc hd hn (hQ _ h' (s.toks + 1) ⟨_, _, by simp [hi], rfl, ht, Nat.lt_succ_self _⟩ (by show h'.IsStrIter I (strIterType x) x t (i + 1); rw [ety]; exact hit') (fun b o hb e => (hs'.2 b (by simpa using hb)).trans e) (Nat.le_succ _))
  cases ha : x.cps.all (· < 128)
  · have ety : strIterType x = "str_iterator" := by simp [strIterType, ha]
    have st : s.heap.IsStrIter I (strIterType x) x t i := st
    rw [ety] at st
    exact wpAny_pyNext_wide_item st (c := x.cps[i]) (by simp [hi]) fun h' hit' hs' => key _ h' (by decide) hit' ety hs'
  · have ety : strIterType x = "str_ascii_iterator" := by simp [strIterType, ha]
    have st : s.heap.IsStrIter I (strIterType x) x t i := st
    rw [ety] at st
    exact wpAny_pyNext_ascii_item st (c := x.cps[i]) (by simp [hi]) fun h' hit' hs' => key _ h' (by decide) hit' ety hs'
section
variable {prog : Program} {w : World} {A : Around} {E : Value → Shared → Prop} {s : Shared} {z TI TO i1 i2 : Addr} {fp1 fp2 : List Addr} {n1 n2 i : Nat} {P1 P2 : Nat → Value → Nat → Prop} {St1 St2 : Nat → Heap → Prop} {a1 a2 : Value}
theorem zipT_next {Q : Value → Shared → Prop} (S : ZipSep2 z TI TO i1 i2 fp1 fp2) (D1 : DrT prog w A i1 fp1 n1 P1 St1) (D2 : DrT prog w A i2 fp2 n2 P2 St2) (ht : 1 ≤ s.toks)
    (hz : IsZip s.heap z TI TO .none) (hTI : IsTupOf2 s.heap TI (.ref i1) (.ref i2)) (hTO : IsTupOf2 s.heap TO a1 a2) (st1 : St1 i s.heap) (st2 : St2 i s.heap) (hlt1 : i < n1) (hlt2 : i < n2)
    (hQ : ∀ x1 x2 h' tk, s.toks ≤ tk → P1 i x1 tk → P2 i x2 tk → IsZip h' z TI TO (rawInt s.heap.objs.size) → IsTupOf2 h' TO x1 x2 → St1 (i + 1) h' → St2 (i + 1) h' → IsTupOf2 h' s.heap.objs.size x1 x2 → h'.objs.size = s.heap.objs.size + 1 →
      (∀ c o, c ≠ z → c ≠ TO → c ≠ i1 → c ≠ i2 → s.heap.get? c = some o → h'.get? c = some o) → Q (.ref s.heap.objs.size) { s with heap := h', toks := tk }) :
    wpAny (model prog w) A (Builtin.«zip.__next__» ⟨[.ref z], []⟩) (fun fin s' => ∃ v, fin = .done (.ret v) ∧ Q v s') E s := by
  obtain ⟨hp, g, d, tk0, os⟩ := s
  show wpAny _ _ (field (.ref z) 2 >>= _) _ _ _
  refine wpAny_bind (wpAny_field hz rfl (x := .bool false) rfl ?_)
  show wpAny _ _ (field (.ref z) 3 >>= _) _ _ _
  refine wpAny_bind (wpAny_field hz rfl (x := .ref TI) rfl ?_)
  refine wpAny_bind (wpAny_seqItems hTI rfl ?_)
  show wpAny _ _ (Builtin.SmallTypes.ownedTupleIsFree (.ref z) >>= _) _ _ _
  refine wpAny_bind ?_
  unfold Builtin.SmallTypes.ownedTupleIsFree
  refine wpAny_bind (wpAny_field hz rfl (x := .none) rfl (wpAny_pure ?_))
  simp only [if_true]
  refine wpAny_bind (wpAny_rule ?_)
  refine wpAny_bind (wpAny_field hz rfl (x := .ref TO) rfl ?_)
  refine wpAny_bind (wpAny_setField_rec hz (by simp) fun g0 hz0 hs0 => ?_)
  replace hz0 : IsZip g0 z TI TO .ellipsis := hz0
  replace hs0 : Heap.SameBut z hp g0 := hs0
  refine wpAny_bind ?_
  simp only [List.zipIdx_cons, List.zipIdx_nil, List.forIn_cons, List.forIn_nil]
  refine wpAny_bind (wpAny_bind (wpAny_onRaise ?_))
  show wpAny _ _ (Builtin.SmallTypes.nextOf (.ref i1) >>= _) _ _ ⟨g0, g, d, tk0, os⟩
  refine wpAny_bind (D1.item i ⟨g0, g, d, tk0, os⟩ _ _ hlt1 (D1.dr.over st1 hs0 S.zf1) ht fun x1 p1 tk1 hk1 hx1 sn1 hp1 => wpAny_pure ?_)
  replace hp1 : Heap.SameBut i1 g0 p1 := hp1
  have hU1 : IsTupOf2 p1 TO a1 a2 := hp1.extBut _ _ S.Ti1 (hs0.extBut _ _ S.TOz hTO)
  refine wpAny_bind (wpAny_seqItems (s := ⟨p1, g, d, tk1, os⟩) hU1 rfl ?_)
  refine wpAny_bind (updateSeq_IsTupOf2 (s := ⟨p1, g, d, tk1, os⟩) hU1 fun g1 hT1 hs1 => ?_)
  replace hT1 : IsTupOf2 g1 TO x1 a2 := hT1
  replace hs1 : Heap.SameBut TO p1 g1 := hs1
  refine wpAny_bind (wpAny_letGo (wpAny_pure ?_))
  refine wpAny_bind (wpAny_bind (wpAny_onRaise ?_))
  show wpAny _ _ (Builtin.SmallTypes.nextOf (.ref i2) >>= _) _ _ ⟨g1, g, d, tk1, os⟩
  refine wpAny_bind (D2.item i ⟨g1, g, d, tk1, os⟩ _ _ hlt2 (D2.dr.over (D2.dr.over (D2.dr.over st2 hs0 S.zf2) hp1 S.sep1_2) hs1 S.Tf2) (Nat.le_trans ht hk1) fun x2 p2 tk2 hk2 hx2 sn2 hp2 => wpAny_pure ?_)
  replace hp2 : Heap.SameBut i2 g1 p2 := hp2
  have hU2 : IsTupOf2 p2 TO x1 a2 := hp2.extBut _ _ S.Ti2 hT1
  refine wpAny_bind (wpAny_seqItems (s := ⟨p2, g, d, tk2, os⟩) hU2 rfl ?_)
  refine wpAny_bind (updateSeq_IsTupOf2 (s := ⟨p2, g, d, tk2, os⟩) hU2 fun g2 hT2 hs2 => ?_)
  replace hT2 : IsTupOf2 g2 TO x1 x2 := hT2
  replace hs2 : Heap.SameBut TO p2 g2 := hs2
  refine wpAny_bind (wpAny_letGo (wpAny_pure (wpAny_pure ?_)))
  refine wpAny_bind (wpAny_seqItems (s := ⟨g2, g, d, tk2, os⟩) hT2 rfl ?_)
  refine wpAny_bind (wpAny_newTuple ?_)
  have hsz : g2.objs.size = hp.objs.size := by rw [hs2.1, hp2.1, hs1.1, hp1.1, hs0.1]
  have hzz : IsZip g2 z TI TO .ellipsis := (hs2.extBut _ _ S.TOz.symm (hp2.extBut _ _ S.zi2 (hs1.extBut _ _ S.TOz.symm (hp1.extBut _ _ S.zi1 hz0))))
  have hkk : ∀ c o, c ≠ z → c ≠ TO → c ≠ i1 → c ≠ i2 → hp.get? c = some o → g2.get? c = some o := fun c o cz cT c1 c2 e =>
    (hs2.extBut _ _ cT (hp2.extBut _ _ c2 (hs1.extBut _ _ cT (hp1.extBut _ _ c1 (hs0.extBut _ _ cz e)))))
  have hj1 : St1 (i + 1) g2 := (D1.dr.over (D1.dr.over (D1.dr.over sn1 hs1 S.Tf1) hp2 S.sep2_1) hs2 S.Tf1)
  have hj2 : St2 (i + 1) g2 := (D2.dr.over sn2 hs2 S.Tf2)
  have hzlt : z < g2.objs.size := Heap.lt_size hzz
  show wpAny _ _ (Builtin.SmallTypes.ownedTupleHandOut (.ref z) (.ref g2.objs.size) >>= _) _ _ ⟨g2.push { cls := .type "tuple", data := .seq #[x1, x2] }, g, d, tk2, os⟩
  refine wpAny_bind ?_
  unfold Builtin.SmallTypes.ownedTupleHandOut
  have hz₆ : IsZip (g2.push { cls := .type "tuple", data := .seq #[x1, x2] }) z TI TO .ellipsis := Heap.get?_push_of_some _ hzz
  refine wpAny_bind (wpAny_setField_rec hz₆ (by simp) fun h₇ hz₇ hs₇ => ?_)
  replace hz₇ : IsZip h₇ z TI TO (rawInt g2.objs.size) := hz₇
  refine wpAny_setField_rec hz₇ (by simp) fun h₈ hz₈ hs₈ => ?_
  replace hz₈ : IsZip h₈ z TI TO (rawInt g2.objs.size) := hz₈
  replace hs₇ : Heap.SameBut z (g2.push { cls := .type "tuple", data := .seq #[x1, x2] }) h₇ := hs₇
  replace hs₈ : Heap.SameBut z h₇ h₈ := hs₈
  have up : ∀ c o, c ≠ z → g2.get? c = some o → h₈.get? c = some o := fun c o c1 e => hs₈.extBut _ _ c1 (hs₇.extBut _ _ c1 (Heap.get?_push_of_some _ e))
  have hT₈ : IsTupOf2 h₈ g2.objs.size x1 x2 := hs₈.extBut _ _ (Nat.ne_of_gt hzlt) (hs₇.extBut _ _ (Nat.ne_of_gt hzlt) (Heap.get?_push_size _ rfl))
  have hz8 : h₈.objs.size = g2.objs.size + 1 := by rw [hs₈.1, hs₇.1, Heap.size_push]
  rw [hsz] at hz₈ hT₈ hz8
  refine wpAny_pure ⟨_, rfl, ?_⟩
  show Q (.ref g2.objs.size) ⟨h₈, g, d, tk2, os⟩
  rw [hsz]
  exact hQ x1 x2 h₈ tk2 (Nat.le_trans hk1 hk2) (D1.mono _ _ _ _ hk2 hx1) hx2 hz₈ (up _ _ S.TOz hT2) (D1.dr.frame _ _ _ hj1 fun b hb o e => up b o (fun q => S.zf1 (q ▸ hb)) e) (D2.dr.frame _ _ _ hj2 fun b hb o e => up b o (fun q => S.zf2 (q ▸ hb)) e) hT₈ hz8 fun c o cz cT c1 c2 e => up c o cz (hkk c o cz cT c1 c2 e)

theorem zipT_pyNext {Q : Option Value → Shared → Prop} (S : ZipSep2 z TI TO i1 i2 fp1 fp2) (D1 : DrT prog w A.in1 i1 fp1 n1 P1 St1) (D2 : DrT prog w A.in1 i2 fp2 n2 P2 St2) (ht : 1 ≤ s.toks)
    (hz : IsZip s.heap z TI TO .none) (hTI : IsTupOf2 s.heap TI (.ref i1) (.ref i2)) (hTO : IsTupOf2 s.heap TO a1 a2) (st1 : St1 i s.heap) (st2 : St2 i s.heap) (hlt1 : i < n1) (hlt2 : i < n2)
    (hQ : ∀ x1 x2 h' tk, s.toks ≤ tk → P1 i x1 tk → P2 i x2 tk → IsZip h' z TI TO (rawInt s.heap.objs.size) → IsTupOf2 h' TO x1 x2 → St1 (i + 1) h' → St2 (i + 1) h' → IsTupOf2 h' s.heap.objs.size x1 x2 → h'.objs.size = s.heap.objs.size + 1 →
      (∀ c o, c ≠ z → c ≠ TO → c ≠ i1 → c ≠ i2 → s.heap.get? c = some o → h'.get? c = some o) → Q (some (.ref s.heap.objs.size)) { s with heap := h', toks := tk }) :
    wpAny (model prog w) A (pyNext (.ref z)) Q E s := by
  have hT : s.TypeIs (.ref z) "zip" := ⟨_, hz, rfl⟩
  unfold pyNext
  exact wpAny_bind (wpAny_attempt (wpAny_callSpecial?_slot (name := Str.ofString "__next__") hT F.slot_zip_next
    (wpAny_call_entry F.slot_zip_next hT F.entry_zip_next
      (zipT_next S D1 D2 ht hz hTI hTO st1 st2 hlt1 hlt2 fun x1 x2 h' tk y0 y1 y2 b1 b2 d1 d2 b5 b6 b7 => wpAny_pure (hQ x1 x2 h' tk y0 y1 y2 b1 b2 d1 d2 b5 b6 b7)) (F.args_zip_next_1 _))))

theorem Wk.zip {elts : List Expr} {x1 : Nat} {pos : Pos} (S : ZipSep2 z TI TO i1 i2 fp1 fp2) (D1 : DrT prog w A.in1 i1 fp1 n1 P1 St1) (D2 : DrT prog w A.in1 i2 fp2 n2 P2 St2) :
    Wk prog w A (.Tuple elts x1 pos) z (z :: TI :: TO :: (fp1 ++ fp2)) [z, TO, i1, i2] (min n1 n2) (fun i v h n => ∃ T x y, v = .ref T ∧ P1 i x n ∧ P2 i y n ∧ h.IsTuple T #[x, y])
      (fun i h => IsZip h z TI TO .none ∧ IsTupOf2 h TI (.ref i1) (.ref i2) ∧ (∃ a1 a2, IsTupOf2 h TO a1 a2) ∧ St1 i h ∧ St2 i h) := by
  have U := (WalksT.zipD2 S D1.dr D2.dr).toU
  have G : Goes prog w A (.Tuple elts x1 pos) z _ _ _ _ _ := Goes.ofWalksU U
  refine ⟨G.sub, fun i h ⟨hz, _, ⟨a1, a2, hTO⟩, st1, st2⟩ b hb => ?_, G.frame, fun i s Q E hi hst ht hQ => ?_, G.stops, G.self⟩
  · have hb' : b = z ∨ b = TO ∨ b = i1 ∨ b = i2 := by simpa using hb
    rcases hb' with q | q | q | q
    · rw [q]; exact ⟨_, hz⟩
    · rw [q]; exact ⟨_, hTO⟩
    · rw [q]; exact D1.dr.live _ _ st1
    · rw [q]; exact D2.dr.live _ _ st2
  obtain ⟨hz, hTI, ⟨a1, a2, hTO⟩, st1, st2⟩ := hst
  have hi1 : i < n1 := by omega
  have hi2 : i < n2 := by omega
  refine zipT_pyNext S D1 D2 ht hz hTI hTO st1 st2 hi1 hi2 fun x1 x2 h' tk y0 y1 y2 b1 b2 d1 d2 b5 b6 hk => ?_
  have lt : ∀ {c o}, s.heap.get? c = some o → s.heap.objs.size ≠ c := fun e => Nat.ne_of_gt (Heap.lt_size e)
  have l1 : s.heap.objs.size ≠ i1 := by obtain ⟨_, e⟩ := D1.dr.live _ _ st1; exact lt e
  have l2 : s.heap.objs.size ≠ i2 := by obtain ⟨_, e⟩ := D2.dr.live _ _ st2; exact lt e
  refine ⟨_, rfl, U.go elts _ pos i s.heap.objs.size { s with heap := h', toks := tk } _ _ ⟨b1, hk _ _ S.TIz S.TITO S.TIi1 S.TIi2 hTI, ⟨_, _, b2⟩, d1, d2, lt hz, lt hTO, l1, l2⟩ fun h₂ st₂ hk₂ => ?_⟩
  have hT : h'.IsTuple s.heap.objs.size #[x1, x2] := ⟨_, b5, rfl, _, rfl⟩
  refine hQ (.ref s.heap.objs.size) h₂ tk ⟨_, x1, x2, rfl, y1, y2, hT.at fun o e => hk₂ _ o ?_ e⟩ st₂ (fun b o hb e => hk₂ b o hb (hk b o (fun q => hb (by simp [q])) (fun q => hb (by simp [q])) (fun q => hb (by simp [q])) (fun q => hb (by simp [q])) e)) y0
  intro hm
  have hm' : s.heap.objs.size = z ∨ s.heap.objs.size = TO ∨ s.heap.objs.size = i1 ∨ s.heap.objs.size = i2 := by simpa using hm
  rcases hm' with q | q | q | q
  · exact lt hz q
  · exact lt hTO q
  · exact l1 q
  · exact l2 q
end
section
variable {prog : Program} {w : World} {A : Around} {E : Value → Shared → Prop} {s : Shared}
theorem enumT_next {e it : Addr} {fp : List Addr} {n i : Nat} {c : Int} {P : Nat → Value → Nat → Prop} {St : Nat → Heap → Prop} {old : Value} {Q : Value → Shared → Prop}
    (D : DrT prog w A it fp n P St) (ht : 1 ≤ s.toks) (he : IsEnum s.heap e it c old) (hst : St i s.heap) (hlt : i < n) (hne : e ≠ it) (hef : e ∉ fp)
    (hQ : ∀ x h' tk, s.toks ≤ tk → P i x tk → IsEnumOut h' e it (c + 1) x s.heap.objs.size → St (i + 1) h' →
      h'.get? s.heap.objs.size = some { cls := .type "tuple", data := .seq #[.int c tk, x] } → h'.objs.size = s.heap.objs.size + 1 →
      (∀ b o, b ≠ e → b ≠ it → s.heap.get? b = some o → h'.get? b = some o) → Q (.ref s.heap.objs.size) { s with heap := h', toks := tk + 1 }) :
    wpAny (model prog w) A (Builtin.«enumerate.__next__» ⟨[.ref e], []⟩) (fun fin s' => ∃ v, fin = .done (.ret v) ∧ Q v s') E s := by
  obtain ⟨hp, g, d, tk₀, os⟩ := s
  show wpAny _ _ (field (.ref e) 2 >>= _) _ _ _
  refine wpAny_bind (wpAny_field he rfl (x := .ref it) rfl ?_)
  refine wpAny_bind (D.item i ⟨hp, g, d, tk₀, os⟩ _ _ hlt hst ht fun x h₁ tk htk hPx hit₁ hs₁ => ?_)
  replace hs₁ : Heap.SameBut it hp h₁ := hs₁
  have he₁ : IsEnum h₁ e it c old := (hs₁.2 e hne).trans he
  show wpAny _ _ (field (.ref e) 3 >>= _) _ _ ⟨h₁, g, d, tk, os⟩
  refine wpAny_bind (wpAny_field he₁ rfl (x := rawInt c) rfl ?_)
  show wpAny _ _ (field (.ref e) 4 >>= _) _ _ ⟨h₁, g, d, tk, os⟩
  refine wpAny_bind (wpAny_field he₁ rfl (x := .none) rfl ?_)
  show wpAny _ _ (mkInt c >>= _) _ _ ⟨h₁, g, d, tk, os⟩
  refine wpAny_bind (wpAny_mkInt ?_)
  show wpAny _ _ (setField (.ref e) 3 (rawInt (c + 1)) >>= _) _ _ ⟨h₁, g, d, tk + 1, os⟩
  refine wpAny_bind (wpAny_setField_rec he₁ (by simp) fun h₂ he₂ hs₂ => ?_)
  replace hs₂ : Heap.SameBut e h₁ h₂ := hs₂
  replace he₂ : IsEnum h₂ e it (c + 1) old := he₂
  show wpAny _ _ (setField (.ref e) 4 .none >>= _) _ _ ⟨h₂, g, d, tk + 1, os⟩
  refine wpAny_bind (wpAny_setField_rec he₂ (by simp) fun h₃ he₃ hs₃ => ?_)
  replace hs₃ : Heap.SameBut e h₂ h₃ := hs₃
  replace he₃ : IsEnum h₃ e it (c + 1) old := he₃
  show wpAny _ _ (newTuple [.int c tk, x] >>= _) _ _ ⟨h₃, g, d, tk + 1, os⟩
  refine wpAny_bind (wpAny_newTuple ?_)
  have he₄ : IsEnum (h₃.push { cls := .type "tuple", data := .seq #[.int c tk, x] }) e it (c + 1) old := Heap.get?_push_of_some _ he₃
  generalize hh₄ : h₃.push { cls := .type "tuple", data := .seq #[.int c tk, x] } = h₄ at he₄
  have hsz : h₃.objs.size = hp.objs.size := by rw [hs₃.1, hs₂.1, hs₁.1]
  have hel : e < hp.objs.size := Heap.lt_size he
  have ht₄ : h₄.get? hp.objs.size = some { cls := .type "tuple", data := .seq #[.int c tk, x] } := by rw [← hh₄, ← hsz]; exact Heap.get?_push_size _ rfl
  have hz₄ : h₄.objs.size = hp.objs.size + 1 := by rw [← hh₄, Heap.size_push, hsz]
  have hk₄ : ∀ b o, b ≠ e → b ≠ it → hp.get? b = some o → h₄.get? b = some o := fun b o hbe hbi hb => by
    rw [← hh₄]; exact Heap.get?_push_of_some _ (hs₃.extBut b o hbe (hs₂.extBut b o hbe (hs₁.extBut b o hbi hb)))
  have hit₄ : St (i + 1) h₄ := D.dr.frame _ _ _ hit₁ fun b hb o y => by
    have hbe : b ≠ e := fun q => hef (q ▸ hb)
    rw [← hh₄]; exact Heap.get?_push_of_some _ (hs₃.extBut b o hbe (hs₂.extBut b o hbe y))
  show wpAny _ _ (Builtin.SmallTypes.ownedTupleIsFree (.ref e) >>= _) _ _ ⟨h₄, g, d, tk + 1, os⟩
  rw [hsz]
  clear hh₄ he₃ hs₃ he₂ hs₂ he₁ hs₁ hit₁ hsz h₃ h₂ h₁
  refine wpAny_bind ?_
  · unfold Builtin.SmallTypes.ownedTupleIsFree
    refine wpAny_bind (wpAny_field he₄ rfl (x := .none) rfl (wpAny_pure ?_))
    simp only [if_true]
    refine wpAny_bind (wpAny_rule ?_)
    refine wpAny_bind (wpAny_field he₄ rfl (x := old) rfl ?_)
    refine wpAny_bind (wpAny_setField_rec he₄ (by simp) fun h₅ he₅ hs₅ => ?_)
    replace hs₅ : Heap.SameBut e h₄ h₅ := hs₅
    replace he₅ : IsEnum h₅ e it (c + 1) x := he₅
    show wpAny _ _ (Builtin.SmallTypes.ownedTupleHandOut (.ref e) (.ref hp.objs.size) >>= _) _ _ ⟨h₅, g, d, tk + 1, os⟩
    refine wpAny_bind ?_
    · unfold Builtin.SmallTypes.ownedTupleHandOut
      refine wpAny_bind (wpAny_setField_rec he₅ (by simp) fun h₆ he₆ hs₆ => ?_)
      replace hs₆ : Heap.SameBut e h₅ h₆ := hs₆
      replace he₆ : IsEnumOut h₆ e it (c + 1) x hp.objs.size := he₆
      refine wpAny_setField_rec he₆ (by simp) fun h₇ he₇ hs₇ => ?_
      replace hs₇ : Heap.SameBut e h₆ h₇ := hs₇
      replace he₇ : IsEnumOut h₇ e it (c + 1) x hp.objs.size := he₇
      refine wpAny_bind (wpAny_letGo (wpAny_pure ⟨_, rfl, hQ x h₇ tk htk hPx he₇ ?_ ?_ ?_ ?_⟩))
      · exact D.dr.frame _ _ _ hit₄ fun b hb o y => by
          have hbe : b ≠ e := fun q => hef (q ▸ hb)
          exact hs₇.extBut b o hbe (hs₆.extBut b o hbe (hs₅.extBut b o hbe y))
      · exact hs₇.extBut _ _ (Nat.ne_of_gt hel) (hs₆.extBut _ _ (Nat.ne_of_gt hel) (hs₅.extBut _ _ (Nat.ne_of_gt hel) ht₄))
      · rw [hs₇.1, hs₆.1, hs₅.1, hz₄]
      · exact fun b o hbe hbi hb => hs₇.extBut b o hbe (hs₆.extBut b o hbe (hs₅.extBut b o hbe (hk₄ b o hbe hbi hb)))

theorem enumT_pyNext {e it : Addr} {fp : List Addr} {n i : Nat} {c : Int} {P : Nat → Value → Nat → Prop} {St : Nat → Heap → Prop} {old : Value} {Q : Option Value → Shared → Prop}
    (D : DrT prog w A.in1 it fp n P St) (ht : 1 ≤ s.toks) (he : IsEnum s.heap e it c old) (hst : St i s.heap) (hlt : i < n) (hne : e ≠ it) (hef : e ∉ fp)
    (hQ : ∀ x h' tk, s.toks ≤ tk → P i x tk → IsEnumOut h' e it (c + 1) x s.heap.objs.size → St (i + 1) h' →
      h'.get? s.heap.objs.size = some { cls := .type "tuple", data := .seq #[.int c tk, x] } → h'.objs.size = s.heap.objs.size + 1 →
      (∀ b o, b ≠ e → b ≠ it → s.heap.get? b = some o → h'.get? b = some o) → Q (some (.ref s.heap.objs.size)) { s with heap := h', toks := tk + 1 }) :
    wpAny (model prog w) A (pyNext (.ref e)) Q E s := by
  have hT : s.TypeIs (.ref e) "enumerate" := ⟨_, he, rfl⟩
  unfold pyNext
  exact wpAny_bind (wpAny_attempt (wpAny_callSpecial?_slot (name := Str.ofString "__next__") hT F.slot_enumerate_next
    (wpAny_call_entry F.slot_enumerate_next hT F.entry_enumerate_next
      (enumT_next D ht he hst hlt hne hef fun x h' tk t0 a b c d k q => wpAny_pure (hQ x h' tk t0 a b c d k q)) (F.args_enumerate_next_1 _))))
end
theorem ev_enumerate_new1 {v : Value} {o : Obj} {H : Heap → Prop} (B : Begins v o H) :
    Meets (Builtin.«enumerate.__new__» ⟨[.type "enumerate", v], []⟩) (fun _ R s => H s.heap ∧
      R (.ok (.ret (.ref (s.heap.push o).objs.size))) { s with heap := (s.heap.push o).push { cls := .type "enumerate", data := .fields #[.none, .bool false, .ref s.heap.objs.size, rawInt 0, .none, .none] } }) :=
  .of_wp fun prog w A R s h => by
    obtain ⟨hp, g, d, tk, os⟩ := s; obtain ⟨h1, h⟩ := h
    have hsub := sub_enumerate
    have q1 : ∀ {A' : Around} {E : Value → Shared → Prop} {Q : Value → Shared → Prop}, Q (.ref hp.objs.size) ⟨hp.push o, g, d, tk, os⟩ → wpAny (model prog w) A' (pyIter v) Q E ⟨hp, g, d, tk, os⟩ :=
      fun q => B.iter prog w _ _ ⟨hp, g, d, tk, os⟩ _ h1 q
    wp_walk using q1
    refine wpAny_stack_any fun st => wpAny_pure ?_
    split
    · rename_i c _ _ _ _ _
      cases (c == Value.type "enumerate")
      · wp_walk using q1
        exact ⟨_, rfl, h⟩
      · wp_walk using q1
        exact ⟨_, rfl, h⟩
    · wp_walk using q1
      exact ⟨_, rfl, h⟩
theorem ev_enum_begins {prog : Program} {w : World} {A : Around} {E : Value → Shared → Prop} {s : Shared} {v : Value} {o : Obj} {H : Heap → Prop} {Q : Value → Shared → Prop} (B : Begins v o H) (h1 : H s.heap)
    (h : ∀ h', IsEnum h' (s.heap.objs.size + 1) s.heap.objs.size 0 .none → h'.get? s.heap.objs.size = some o → h'.objs.size = s.heap.objs.size + 2 →
      (∀ b o, s.heap.get? b = some o → h'.get? b = some o) → Q (.ref (s.heap.objs.size + 1)) { s with heap := h' }) :
    wpAny (model prog w) A (call (.type "enumerate") [v]) Q E s := by
  refine callType_new F.called_enumerate (by decide) (F.typeCall_enumerate_1 _) (F.newCall_enumerate_1 _) (fun obj => F.args_object_init_2 obj _) F.entry_enumerate_new
    (ev_enumerate_new1 B) ⟨h1, ?_⟩
  have hz : (s.heap.push o).objs.size = s.heap.objs.size + 1 := Heap.size_push ..
  show _ ∧ _
  rw [hz]
  have he : IsEnum ((s.heap.push o).push { cls := .type "enumerate", data := .fields #[.none, .bool false, .ref s.heap.objs.size, rawInt 0, .none, .none] }) (s.heap.objs.size + 1) s.heap.objs.size 0 .none := by
    have := Heap.get?_push_size (s.heap.push o) (o := { cls := .type "enumerate", data := .fields #[.none, .bool false, .ref s.heap.objs.size, rawInt 0, .none, .none] }) rfl
    rw [hz] at this; exact this
  refine ⟨⟨_, he, rfl⟩, h _ he (Heap.get?_push_of_some _ (Heap.get?_push_size _ B.free)) (by rw [Heap.size_push, hz]) fun b o x => Heap.get?_push_of_some _ (Heap.get?_push_of_some _ x)⟩
theorem Wk.enum {prog : Program} {w : World} {A : Around} {elts : List Expr} {x1 : Nat} {pos : Pos} {it : Addr} {fp : List Addr} {n : Nat} {P : Nat → Value → Nat → Prop} {St : Nat → Heap → Prop} (D : DrT prog w A.in1 it fp n P St) (e : Addr) (hei : e ≠ it) (hef : e ∉ fp) (hif : it ∈ fp) :
    Wk prog w A (.Tuple elts x1 pos) e (e :: fp) [e, it] n (fun i v h m => ∃ T t x, v = .ref T ∧ P i x m ∧ h.IsTuple T #[.int ((0 : Int) + (i : Int)) t, x]) (fun i h => (∃ old, IsEnum h e it ((0 : Int) + (i : Int)) old) ∧ St i h) := by
  have U := (WalksT.enumFrom 0 D.dr e hei hef hif).toU
  have G : Goes prog w A (.Tuple elts x1 pos) e _ _ _ _ _ := Goes.ofWalksU U
  refine ⟨G.sub, fun i h ⟨⟨old, he⟩, st⟩ b hb => ?_, G.frame, fun i s Q E hi hst ht hQ => ?_, G.stops, G.self⟩
  · have hb' : b = e ∨ b = it := by simpa using hb
    rcases hb' with q | q
    · rw [q]; exact ⟨_, he⟩
    · rw [q]; exact D.dr.live _ _ st
  obtain ⟨⟨old, he⟩, hs⟩ := hst
  refine enumT_pyNext D ht he hs hi hei hef fun x h' tk q0 hP ho hs' hT hsz hk => ?_
  have helt : e < s.heap.objs.size := Heap.lt_size he
  have hilt : it < s.heap.objs.size := by obtain ⟨_, y⟩ := D.dr.live _ _ hs; exact Heap.lt_size y
  refine ⟨_, rfl, U.go elts _ pos i s.heap.objs.size { s with heap := h', toks := tk + 1 } _ _ ⟨⟨_, ho⟩, hs', Nat.ne_of_gt helt, Nat.ne_of_gt hilt⟩ fun h₂ st₂ hk₂ => ?_⟩
  have hT' : h'.IsTuple s.heap.objs.size #[.int ((0 : Int) + (i : Int)) tk, x] := ⟨_, hT, rfl, _, rfl⟩
  refine hQ (.ref s.heap.objs.size) h₂ (tk + 1) ⟨_, tk, x, rfl, D.mono _ _ _ _ (Nat.le_succ _) hP, hT'.at fun o y => hk₂ _ o ?_ y⟩ st₂ (fun b o hb y => hk₂ b o hb (hk b o (fun q => hb (by simp [q])) (fun q => hb (by simp [q])) y)) (Nat.le_succ_of_le q0)
  intro hm
  have hm' : s.heap.objs.size = e ∨ s.heap.objs.size = it := by simpa using hm
  rcases hm' with q | q
  · exact Nat.ne_of_gt helt q
  · exact Nat.ne_of_gt hilt q
end PySem
namespace Ev
open PySem PySem.Spec PyProof.Rows L2
section
variable {B : Bk} {O O' : Addr → Prop} {h : Heap} {n : Nat}
mutual
theorem DV.grow (w : ∀ b, O' b → O b ∨ h.get? b = none) : ∀ {v : Value} {d : D}, DV B O h n v d → DV B O' h n v d
  | _, _, .none => .none
  | _, _, .bool b => .bool b
  | _, _, .int i t => .int i t
  | _, _, .str l t g z => .str l t g z
  | _, _, .list no e z r => .list (fun x => (w _ x).elim no fun q => by rw [e] at q; cases q) e z (DVs.grow w r)
  | _, _, .tuple no e z r => .tuple (fun x => (w _ x).elim no fun q => by rw [e] at q; cases q) e z (DVs.grow w r)
  | _, _, .fn f => .fn f
  | _, _, .exc no e c => .exc (fun x => (w _ x).elim no fun q => by rw [e] at q; cases q) e c
theorem DVs.grow (w : ∀ b, O' b → O b ∨ h.get? b = none) : ∀ {vs : List Value} {ds : List D}, DVs B O h n vs ds → DVs B O' h n vs ds
  | _, _, .nil => .nil
  | _, _, .cons a r => .cons (DV.grow w a) (DVs.grow w r)
end
end
/-- an iterator stands ready -/
structure Itr (B : Bk) (X : Cx) (pins : List (Addr × Obj)) (O : Addr → Prop) (n : Nat) (tg : Expr) (s s' : Shared) (ds : List D) (I : Addr) (fp wr : List Addr) (Y : Nat → Value → Heap → Nat → Prop) (St : Nat → Heap → Prop) : Prop where
  wk : Wk X.prog X.w X.A tg I fp wr ds.length Y St
  st : St 0 s'.heap
  new : ∀ b ∈ wr, s.heap.get? b = none
  fpk : ∀ b ∈ wr, FpOk X pins X.H_0 b
  len : ds.length ≤ sizeLine
  fps : ∀ b ∈ fp, ¬ O b ∧ ∃ o, s'.heap.get? b = some o
  yld : ∀ (O' : Addr → Prop), (∀ b, O' b → O b ∨ b ∈ wr ∨ s'.heap.get? b = none) → ∀ i v (s2 : Shared) d, ds[i]? = some d → (∀ b o, s'.heap.get? b = some o → ¬ O' b → s2.heap.get? b = some o) → s'.toks ≤ s2.toks → Y i v s2.heap s2.toks → IT B O' n v d s2
def Pit (B : Bk) (X : Cx) (pins : List (Addr × Obj)) (O : Addr → Prop) (n : Nat) (tg : Expr) (s : Shared) (ds : List D) (itv : Value) (s' : Shared) : Prop :=
  ∃ I fp wr Y St, itv = .ref I ∧ Inv X pins [] X.H_0 s' ∧ Le X s s' ∧ Itr B X pins O n tg s s' ds I fp wr Y St
/-- e is walked, a target of n names -/
def SI (B : Bk) (X : Cx) (N : List Str) (F : Fx) (n : Nat) (tg e : Expr) (it : Ev.It) : Prop :=
  ∀ (pins : List (Addr × Obj)) (O : Addr → Prop) (ρ : List Sl) (s : Shared), Ste B X pins O N ρ s →
    Gw B X (fun Q => wpAny (model X.prog X.w) X.A (eval e X.env) (fun v s1 => wpAny (model X.prog X.w) X.A (pyIter v) Q X.xe s1) X.xe s) (evIt F ρ it) (Pit B X pins O n tg s)
/-- an iterator over the items -/
structure Src (B : Bk) (P : Program) (w : World) (O : Addr → Prop) (h : Heap) (n : Nat) (v : Value) (ds : List D) (o : Obj) (H : Heap → Prop) (fp : List Addr) (Y : Nat → Value → Nat → Prop) : Prop where
  beg : Begins v o H
  len : ds.length ≤ sizeLine
  ok : H h
  fps : ∀ b ∈ fp, ¬ O b ∧ ∃ o, h.get? b = some o
  dr : ∀ (A : Around) (it : Addr), A.handled = none → it ∉ fp → ∃ St, DrT P w A it (it :: fp) ds.length Y St ∧ ∀ h', H h' → h'.get? it = some o → St 0 h'
  yld : ∀ (O' : Addr → Prop), (∀ b, O' b → O b ∨ h.get? b = none) → ∀ i x (h2 : Heap) n2 d, ds[i]? = some d → (∀ b o, h.get? b = some o → ¬ O' b → h2.get? b = some o) → n ≤ n2 → Y i x n2 → DV B O' h2 n2 x d
section
variable {B : Bk} {X : Cx} {N : List Str} {F : Fx} {pins : List (Addr × Obj)} {O O' : Addr → Prop} {ρ : List Sl} {s s1 s' : Shared} {pos p2 : Pos} {a b c e : Expr} {es : List Expr} {xa xb xc x : Ev.X} {xs : List Ev.X} {tg : Expr} {n : Nat}
theorem dvs_at {its : List Value} {ds : List D} {h h2 : Heap} {k k2 : Nat} (r : DVs B O h k its ds) (w : ∀ b, O' b → O b ∨ h.get? b = none) (kp : ∀ b o, h.get? b = some o → ¬ O' b → h2.get? b = some o) (q : k ≤ k2) {i : Nat} {v : Value} {d : D} (hd : ds[i]? = some d) (hv : its.toArray[i]? = some v) : DV B O' h2 k2 v d := by
  obtain ⟨d', e1, e2⟩ := r.getV (by simpa using hv)
  rw [hd] at e1
  cases e1
  exact (e2.grow w).mono (fun b o no e => kp b o e no) q fun _ z => z
theorem sign_dv {l : List Nat} {x : Str} {i m : Nat} {v : Value} {d : D} {h2 : Heap} (hok : okc l = true) (hd : (l.map fun c => D.str [c])[i]? = some d) (hy : SignT (tS l) i v m) : DV B O h2 m v d := by
  obtain ⟨c, u, h1, h2, h3, h4⟩ := hy
  subst h2
  have e1 : l[i]? = some c := by simpa [tS] using h1
  rw [List.getElem?_map, e1] at hd
  cases hd
  refine .str [c] u (.of h3 h4) ⟨?_, ?_⟩
  · rw [sizeLine_eq]; show 1 ≤ 16777216; decide
  · exact okc_sub hok fun y hy => by
      rw [List.mem_singleton.mp hy]
      exact List.mem_of_getElem? e1
theorem src_of {P : Program} {w : World} {h : Heap} {k : Nat} {v : Value} {d : D} {ds : List D} (hv : DV B O h k v d) (hs : seqItems d = .ok ds) : ∃ o H fp Y, Src B P w O h k v ds o H fp Y := by
  cases hv with
  | str l t g z =>
    cases hs
    refine ⟨_, _, [], SignT (tS l), begins_text (tS l) t, by rw [List.length_map]; exact z.1, trivial, fun b hb => (by cases hb), fun A it hh _ => ⟨fun i h => h.IsStrIter it (strIterType (tS l)) (tS l) t i, ?_, fun h' _ e => ⟨_, e, rfl, rfl⟩⟩, fun O' _ i x h2 n2 d hd _ _ hy => sign_dv (x := tS l) z.2 hd hy⟩
    have := DrT.text (prog := P) (w := w) hh it (tS l) t
    have e1 : (tS l).cps.size = (l.map fun c => D.str [c]).length := by simp [tS]
    rw [e1] at this
    exact this
  | @list a its ep ds' no e z r =>
    cases hs
    have hl : h.IsList a its.toArray := ⟨_, e, rfl, _, rfl⟩
    refine ⟨_, _, [a], fun i v _ => its.toArray[i]? = some v, begins_list a its.toArray, by rw [← r.length]; exact z, hl, fun b hb => ?_, fun A it hh hne => ⟨fun i h => h.IsListIter it a i ∧ h.IsList a its.toArray, ?_, fun h' hH e => ⟨⟨_, e, rfl, rfl⟩, hH⟩⟩, fun O' w i x h2 n2 d hd kp q hy => dvs_at r w kp q hd hy⟩
    · rw [List.mem_singleton.mp hb]
      exact ⟨no, _, e⟩
    · have := DrT.of (Draws.list (prog := P) (w := w) hh it a (fun q => hne (by simp [q])) its.toArray)
      rw [List.size_toArray, r.length] at this
      exact this
  | @tuple a its ep ds' no e z r =>
    cases hs
    have hl : h.IsTuple a its.toArray := ⟨_, e, rfl, _, rfl⟩
    refine ⟨_, _, [a], fun i v _ => its.toArray[i]? = some v, begins_tuple a its.toArray, by rw [← r.length]; exact z, hl, fun b hb => ?_, fun A it hh hne => ⟨fun i h => h.IsTupleIter it a i ∧ h.IsTuple a its.toArray, ?_, fun h' hH e => ⟨⟨_, e, rfl, rfl⟩, hH⟩⟩, fun O' w i x h2 n2 d hd kp q hy => dvs_at r w kp q hd hy⟩
    · rw [List.mem_singleton.mp hb]
      exact ⟨no, _, e⟩
    · have := DrT.of (Draws.tuple (prog := P) (w := w) hh it a (fun q => hne (by simp [q])) its.toArray)
      rw [List.size_toArray, r.length] at this
      exact this
  | _ => cases hs
theorem Le.kpt (l : Le X s s1) (fr : ∀ b ∈ X.env.locals :: X.fs, O b) : ∀ b o, s.heap.get? b = some o → ¬ O b → s1.heap.get? b = some o := fun b o e no => (l.1 b o e).1 fun z => no (fr b z)
theorem none_of {h h' : Heap} {b : Addr} (k : ∀ o, h.get? b = some o → h'.get? b = some o) (z : h'.get? b = none) : h.get? b = none := by
  cases e : h.get? b with
  | none => rfl
  | some o => rw [k o e] at z; cases z
theorem push_none {h : Heap} {b : Addr} (hb : h.objs.size ≤ b) : h.get? b = none := Heap.get?_none_of_le hb
/-- a value that is walked itself -/
theorem iter_ok (hc : X.calm = true) (S : Ste B X pins O N ρ s) {v : Value} {d : D} {ds : List D} (hv : DV B O s.heap s.toks v d) (hi : items d = .ok ds) :
    wpAny (model X.prog X.w) X.A (pyIter v) (Pit B X pins O n tg s ds) X.xe s := by
  have hh := S.inv.ok.hd hc
  have gr : ∀ {o : Obj} {O' : Addr → Prop}, (∀ b, O' b → O b ∨ b ∈ [s.heap.objs.size] ∨ (s.heap.push o).get? b = none) → ∀ b, O' b → O b ∨ s.heap.get? b = none := fun {o O'} w b hb => by
    rcases w b hb with z | z | z
    · exact .inl z
    · exact .inr (push_none (Nat.le_of_eq (List.mem_singleton.mp z).symm))
    · exact .inr (none_of (fun o' e => Heap.get?_push_of_some _ e) z)
  have kp : ∀ {o : Obj} {O' : Addr → Prop} {h2 : Heap}, (∀ b o', (s.heap.push o).get? b = some o' → ¬ O' b → h2.get? b = some o') → ∀ b o', s.heap.get? b = some o' → ¬ O' b → h2.get? b = some o' := fun {o O' h2} k b o' e => k b o' (Heap.get?_push_of_some _ e)
  have lt : ∀ b o, s.heap.get? b = some o → b ≠ s.heap.objs.size := fun b o e => Nat.ne_of_lt (Heap.lt_size e)
  have fpk : ∀ b ∈ [s.heap.objs.size], FpOk X pins X.H_0 b := fun b hb => by
    rw [List.mem_singleton.mp hb]
    exact S.inv.fpOk (Nat.le_refl _) (S.inv.hok.fresh (Nat.le_refl _))
  cases hv with
  | str l t g z =>
    cases hi
    refine wpAny_pyIter_strU ?_
    refine ⟨s.heap.objs.size, [s.heap.objs.size], [s.heap.objs.size], fun i v _ m => SignT (tS l) i v m, fun i h => h.IsStrIter s.heap.objs.size (strIterType (tS l)) (tS l) t i, rfl, S.inv.kept (t' := s.toks) fun b o e => Heap.get?_push_of_some _ e, Le.kept (fun b o e => Heap.get?_push_of_some _ e) (Nat.le_refl _), ?_, ⟨_, Heap.get?_push_size _ rfl, rfl, rfl⟩, fun b hb => ?_, fun b hb => fpk b hb, by rw [List.length_map]; exact z.1, fun b hb => ?_, fun O' w i v s2 d hd k q hy => IT.of (sign_dv (x := tS l) z.2 hd hy)⟩
    · have := Wk.text (prog := X.prog) (w := X.w) (target := tg) hh s.heap.objs.size (tS l) t
      have e1 : (tS l).cps.size = (l.map fun c => D.str [c]).length := by simp [tS]
      rw [e1] at this
      exact this
    · exact push_none (Nat.le_of_eq (List.mem_singleton.mp hb).symm)
    · rw [List.mem_singleton.mp hb]
      exact ⟨S.new, _, Heap.get?_push_size _ rfl⟩
  | @list a its ep ds' no e z r =>
    cases hi
    have hl : s.heap.IsList a its.toArray := ⟨_, e, rfl, _, rfl⟩
    refine wpAny_pyIter_list hl ?_
    refine ⟨s.heap.objs.size, [s.heap.objs.size, a], [s.heap.objs.size], fun i v _ _ => its.toArray[i]? = some v, fun i h => h.IsListIter s.heap.objs.size a i ∧ h.IsList a its.toArray, rfl, S.inv.kept (t' := s.toks) fun b o e => Heap.get?_push_of_some _ e, Le.kept (fun b o e => Heap.get?_push_of_some _ e) (Nat.le_refl _), ?_, ⟨⟨_, Heap.get?_push_size _ rfl, rfl, rfl⟩, hl.at fun o e => Heap.get?_push_of_some _ e⟩, fun b hb => ?_, fun b hb => fpk b hb, by rw [← r.length]; exact z, fun b hb => ?_, fun O' w i v s2 d hd k q hy => IT.of (dvs_at r (gr w) (kp k) q hd hy)⟩
    · have := Wk.of (Goes.list (prog := X.prog) (w := X.w) (target := tg) hh s.heap.objs.size a (lt _ _ e) its.toArray) (fun i h ⟨⟨o, e, _⟩, _⟩ b hb => ⟨o, by rw [List.mem_singleton.mp hb]; exact e⟩)
      have e1 : its.toArray.size = ds.length := by rw [List.size_toArray, r.length]
      rw [e1] at this
      exact this
    · exact push_none (Nat.le_of_eq (List.mem_singleton.mp hb).symm)
    · rcases List.mem_cons.mp hb with q | hb
      · rw [q]; exact ⟨S.new, _, Heap.get?_push_size _ rfl⟩
      · rw [List.mem_singleton.mp hb]; exact ⟨no, _, Heap.get?_push_of_some _ e⟩
  | @tuple a its ep ds' no e z r =>
    cases hi
    have hl : s.heap.IsTuple a its.toArray := ⟨_, e, rfl, _, rfl⟩
    refine wpAny_pyIter_tuple hl ?_
    refine ⟨s.heap.objs.size, [s.heap.objs.size, a], [s.heap.objs.size], fun i v _ _ => its.toArray[i]? = some v, fun i h => h.IsTupleIter s.heap.objs.size a i ∧ h.IsTuple a its.toArray, rfl, S.inv.kept (t' := s.toks) fun b o e => Heap.get?_push_of_some _ e, Le.kept (fun b o e => Heap.get?_push_of_some _ e) (Nat.le_refl _), ?_, ⟨⟨_, Heap.get?_push_size _ rfl, rfl, rfl⟩, hl.at fun o e => Heap.get?_push_of_some _ e⟩, fun b hb => ?_, fun b hb => fpk b hb, by rw [← r.length]; exact z, fun b hb => ?_, fun O' w i v s2 d hd k q hy => IT.of (dvs_at r (gr w) (kp k) q hd hy)⟩
    · have := Wk.of (Goes.tuple (prog := X.prog) (w := X.w) (target := tg) hh s.heap.objs.size a (lt _ _ e) its.toArray) (fun i h ⟨⟨o, e, _⟩, _⟩ b hb => ⟨o, by rw [List.mem_singleton.mp hb]; exact e⟩)
      have e1 : its.toArray.size = ds.length := by rw [List.size_toArray, r.length]
      rw [e1] at this
      exact this
    · exact push_none (Nat.le_of_eq (List.mem_singleton.mp hb).symm)
    · rcases List.mem_cons.mp hb with q | hb
      · rw [q]; exact ⟨S.new, _, Heap.get?_push_size _ rfl⟩
      · rw [List.mem_singleton.mp hb]; exact ⟨no, _, Heap.get?_push_of_some _ e⟩
  | _ => cases hi
theorem Le.none {b : Addr} (l : Le X s s1) (h : s1.heap.get? b = none) : s.heap.get? b = none := by
  cases e : s.heap.get? b with
  | none => rfl
  | some o =>
    obtain ⟨sl, q⟩ := (l.1 b o e).2
    rw [h] at q
    cases q
theorem Pit.later {ds : List D} {v : Value} (l : Le X s s1) (p : Pit B X pins O n tg s1 ds v s') : Pit B X pins O n tg s ds v s' := by
  obtain ⟨I, fp, wr, Y, st, e1, e2, e3, e4⟩ := p
  exact ⟨I, fp, wr, Y, st, e1, e2, l.trans e3, e4.wk, e4.st, fun b hb => l.none (e4.new b hb), e4.fpk, e4.len, e4.fps, e4.yld⟩
theorem si_val (hc : X.calm = true) (h : SE B X N F e x) : SI B X N F n tg e (.val x) := by
  intro pins O ρ s S
  show Gw B X _ ((ev F ρ x).bind fun d => items d) _
  refine Gw.bind (W1 := Wm X (eval e X.env) s) (K := fun v s1 Q => wpAny (model X.prog X.w) X.A (pyIter v) Q X.xe s1) wm_mono (fun Q hq => hq) (h pins O ρ s S) fun d v s1 _ p => ?_
  have S1 := S.step p.1 p.2.1
  cases hi : items d with
  | ok ds =>
    exact thn (iter_ok hc S1 p.2.2 hi) fun itv s2 q => q.later p.2.1
  | err c => cases d <;> cases hi
  | stuck => trivial
theorem rng_get {lo hi : Int} {i : Nat} {d : D} (h : (rngD lo hi)[i]? = some d) : d = .int (lo + (i : Nat)) := by
  unfold rngD at h
  rw [List.getElem?_map] at h
  cases e : (List.range (hi - lo).toNat)[i]? with
  | none => rw [e] at h; cases h
  | some k =>
    rw [e] at h
    obtain ⟨h1, h2⟩ := List.getElem?_eq_some_iff.mp e
    rw [List.getElem_range] at h2
    subst h2
    cases h
    rfl
theorem range_ok (hc : X.calm = true) {lo hi : Int} {t u v : Tok} {tk : Nat} (S : Ste B X pins O N ρ s) (h1 : -(2 ^ 62) ≤ lo) (h2 : lo < 2 ^ 62) (h3 : -(2 ^ 62) ≤ hi) (h4 : hi < 2 ^ 62) (hk : s.toks ≤ tk) (h5 : hi - lo ≤ 1000000) :
    wpAny (model X.prog X.w) X.A (pyIter (.ref s.heap.objs.size)) (Pit B X pins O n tg s (rngD lo hi)) X.xe { s with heap := s.heap.push { cls := .type "range", data := .fields #[.int lo t, .int hi u, .int 1 v] }, toks := tk } := by
  have hh := S.inv.ok.hd hc
  refine wpAny_pyIter_range (IsRange.new ..) (small_one h1 h2 h3 h4) ?_
  have kp : ∀ b o, s.heap.get? b = some o → (s.heap.push { cls := .type "range", data := .fields #[.int lo t, .int hi u, .int 1 v] }).get? b = some o := fun b o e => Heap.get?_push_of_some _ e
  have I1 : Inv X pins [] X.H_0 { s with heap := s.heap.push { cls := .type "range", data := .fields #[.int lo t, .int hi u, .int 1 v] }, toks := tk } := S.inv.kept kp
  generalize hg : s.heap.push { cls := .type "range", data := .fields #[.int lo t, .int hi u, .int 1 v] } = g at I1 kp ⊢
  have hz : s.heap.objs.size ≤ g.objs.size := by rw [← hg, Heap.size_push]; exact Nat.le_succ _
  refine ⟨g.objs.size, [g.objs.size], [g.objs.size], fun i v _ _ => ∃ t, v = .int (lo + i * 1) t, fun i h => IsRangeIter h g.objs.size (lo + (i : Nat) * 1) ((((hi - lo).toNat : Nat) : Int) - (i : Nat)) 1, rfl, I1.kept (t' := tk) fun b o e => Heap.get?_push_of_some _ e,
    Le.kept (fun b o e => Heap.get?_push_of_some _ (kp b o e)) hk, ?_, ?_, fun b hb => ?_, fun b hb => ?_, ?_, fun b hb => ?_, fun O' w i v s2 d hd k q hy => ?_⟩
  · have := Wk.of (Goes.range (prog := X.prog) (w := X.w) (target := tg) hh g.objs.size lo 1 (hi - lo).toNat) (fun i h e b hb => by rw [List.mem_singleton.mp hb]; exact ⟨_, e⟩)
    have e1 : (rngD lo hi).length = (hi - lo).toNat := by simp [rngD]
    rw [e1]
    exact this
  · have e1 : lo + ((0 : Nat) : Int) * 1 = lo := by simp
    have e2 : (((hi - lo).toNat : Nat) : Int) - ((0 : Nat) : Int) = Builtin.Range.rangeSize lo hi 1 := by rw [rangeSize_one]; split <;> omega
    show IsRangeIter _ _ (lo + ((0 : Nat) : Int) * 1) ((((hi - lo).toNat : Nat) : Int) - ((0 : Nat) : Int)) 1
    rw [e1, e2]
    exact Heap.get?_push_size _ rfl
  · rw [List.mem_singleton.mp hb]
    exact push_none hz
  · rw [List.mem_singleton.mp hb]
    exact I1.fpOk (Nat.le_refl _) (I1.hok.fresh (Nat.le_refl _))
  · have e1 : (rngD lo hi).length = (hi - lo).toNat := by simp [rngD]
    rw [e1, sizeLine_eq]
    omega
  · rw [List.mem_singleton.mp hb]
    refine ⟨fun z => ?_, _, Heap.get?_push_size _ rfl⟩
    obtain ⟨o, e⟩ := S.dom _ z
    exact absurd (Heap.lt_size (kp _ _ e)) (Nat.lt_irrefl _)
  · obtain ⟨t, rfl⟩ := hy
    rw [rng_get hd]
    have e : lo + (i : Int) * 1 = lo + (i : Nat) := by omega
    rw [e]
    exact IT.of (.int _ t)
theorem evs_one {ρ : List Sl} {x : Ev.X} {β : Type} {f : D → R β} : (ev F ρ x).bind f = (evs F ρ [x]).bind fun l => match l with | [d] => f d | _ => .stuck := by
  show _ = ((ev F ρ x).bind fun d => (R.ok []).bind fun l => .ok (d :: l)).bind _
  cases ev F ρ x <;> rfl
theorem evs_two {ρ : List Sl} {x y : Ev.X} {β : Type} {f : D → D → R β} : ((ev F ρ x).bind fun d => (ev F ρ y).bind fun d2 => f d d2) = (evs F ρ [x, y]).bind fun l => match l with | [d, d2] => f d d2 | _ => .stuck := by
  show _ = ((ev F ρ x).bind fun d => ((ev F ρ y).bind fun d2 => (R.ok []).bind fun l => .ok (d2 :: l)).bind fun l => .ok (d :: l)).bind _
  cases ev F ρ x <;> cases ev F ρ y <;> rfl
/-- a call of a type, walked -/
theorem si_call {nm : Str} {T : String} {np : Pos} {g : List D → R (List D)} (hm : X.mg nm = none) (hv : bootBuiltins nm = some (.type T)) (ha : SA B X N F (e :: es) xs) (hg : L2.Gl X nm) (hn : nm ≠ "__name__") (hdb : (nm == ("__debug__" : Str)) = false)
    (he : starEach (e :: es) X.env = (false, eval e X.env) :: starEach es X.env) (hpl : (backTo pos (starEach es X.env)).any (·.1) = false) (S : Ste B X pins O N ρ s)
    (hk : ∀ ds us s1, Ste B X pins O N ρ s1 → DVs B O s1.heap s1.toks us ds → Gw B X (fun Q => wpAny (model X.prog X.w) X.A (call (.type T) us) (fun v s2 => wpAny (model X.prog X.w) X.A (pyIter v) Q X.xe s2) X.xe s1) (g ds) (Pit B X pins O n tg s1)) :
    Gw B X (fun Q => wpAny (model X.prog X.w) X.A (eval (.Call (.Name nm np) (e :: es) [] pos) X.env) (fun v s1 => wpAny (model X.prog X.w) X.A (pyIter v) Q X.xe s1) X.xe s) ((evs F ρ xs).bind g) (Pit B X pins O n tg s) := by
  refine Gw.bind (W1 := Wm X (spliced (backTo pos (starEach (e :: es) X.env))) s) (K := fun us s1 Q => wpAny (model X.prog X.w) X.A (call (.type T) us) (fun v s2 => wpAny (model X.prog X.w) X.A (pyIter v) Q X.xe s2) X.xe s1) wm_mono (fun Q hq => wpAny_Call_Name_kw (ld_blt S.inv hg hm hv (PyProof.Rows.callWith_type1 hq he hpl) hn hdb)) (ha pos pins O ρ s S) fun ds us s1 _ p => ?_
  exact (hk ds us s1 (S.step p.1 p.2.1) p.2.2).mono (fun Q Q' m w => thn w fun v s w' => thn w' m) fun _ _ _ q => q.later p.2.1
theorem si_rng (hc : X.calm = true) {np : Pos} (hm : X.mg "range" = none) (ha : SA B X N F [e] [x]) (hg : L2.Gl X "range") (he : starEach [e] X.env = (false, eval e X.env) :: starEach [] X.env) : SI B X N F n tg (.Call (.Name "range" np) [e] [] pos) (.rng x) := by
  intro pins O ρ s S
  show Gw B X _ ((ev F ρ x).bind fun x => (asInt x).bind fun i => R.guard (decide (i ≤ 1000000) && smallIx i) (.ok (rngD 0 i))) _
  rw [evs_one]
  refine si_call hm boot_range ha hg (by decide) (by decide) he rfl S fun ds us s1 S1 hd => ?_
  cases hd with
  | nil => trivial
  | cons h1 t =>
    cases t with
    | cons _ _ => trivial
    | nil =>
      cases h1 with
      | int i t =>
        refine Gw.guard fun hq => ?_
        have h2 : -(2 ^ 62) < i ∧ i < 2 ^ 62 := of_decide_eq_true (Bool.and_eq_true_iff.mp hq).2
        exact call_range_1 (range_ok hc S1 (by omega) (by omega) (by omega) h2.2 (Nat.le_trans (Nat.le_succ _) (Nat.le_succ _)) (by have := of_decide_eq_true (Bool.and_eq_true_iff.mp hq).1; omega))
      | _ => trivial
theorem si_rng2 (hc : X.calm = true) {np : Pos} {y : Ev.X} (hm : X.mg "range" = none) (ha : SA B X N F [e, a] [x, y]) (hg : L2.Gl X "range") (he : starEach [e, a] X.env = (false, eval e X.env) :: starEach [a] X.env) (he2 : starEach [a] X.env = [(false, eval a X.env)]) :
    SI B X N F n tg (.Call (.Name "range" np) [e, a] [] pos) (.rng2 x y) := by
  intro pins O ρ s S
  show Gw B X _ ((ev F ρ x).bind fun x => (ev F ρ y).bind fun y => (asInt x).bind fun i => (asInt y).bind fun j => R.guard (decide (j - i ≤ 1000000) && smallIx i && smallIx j) (.ok (rngD i j))) _
  rw [evs_two]
  refine si_call hm boot_range ha hg (by decide) (by decide) he (by rw [he2]; rfl) S fun ds us s1 S1 hd => ?_
  cases hd with
  | nil => trivial
  | cons h1 t =>
    cases t with
    | nil => trivial
    | cons h2 t =>
      cases t with
      | cons _ _ => trivial
      | nil =>
        cases h1 with
        | int i t =>
          cases h2 with
          | int j t' =>
            refine Gw.guard fun hq => ?_
            have q := Bool.and_eq_true_iff.mp hq
            have h2 : -(2 ^ 62) < j ∧ j < 2 ^ 62 := of_decide_eq_true q.2
            have h3 : -(2 ^ 62) < i ∧ i < 2 ^ 62 := of_decide_eq_true (Bool.and_eq_true_iff.mp q.1).2
            exact call_range_2 (range_ok hc S1 (by omega) (by omega) (by omega) h2.2 (Nat.le_succ _) (of_decide_eq_true (Bool.and_eq_true_iff.mp q.1).1))
          | _ => trivial
        | _ => cases h2 <;> trivial
theorem enum_get {i : Nat} {d : D} : ∀ {ds : List D} {k : Nat}, (enumD k ds)[i]? = some d → ∃ d', ds[i]? = some d' ∧ d = .tuple [.int ((k + i : Nat) : Int), d']
  | [], k, h => by simp [enumD] at h
  | x :: ds, k, h => by
    unfold enumD at h
    cases i with
    | zero =>
      simp at h
      exact ⟨x, by simp, h.symm⟩
    | succ i =>
      simp at h
      obtain ⟨d', h1, h2⟩ := enum_get h
      refine ⟨d', by simpa using h1, ?_⟩
      rw [h2]
      congr 3
      omega
theorem enum_len : ∀ {ds : List D} {k : Nat}, (enumD k ds).length = ds.length
  | [], _ => rfl
  | x :: ds, k => by simp [enumD, enum_len]
theorem zip_get {d : D} : ∀ {i : Nat} {as bs : List D}, (zipD as bs)[i]? = some d → ∃ d1 d2, as[i]? = some d1 ∧ bs[i]? = some d2 ∧ d = .tuple [d1, d2]
  | i, [], bs, h => by simp [zipD] at h
  | i, a :: as, [], h => by simp [zipD] at h
  | 0, a :: as, b :: bs, h => by
    simp [zipD] at h
    exact ⟨a, b, by simp, by simp, h.symm⟩
  | i + 1, a :: as, b :: bs, h => by
    simp [zipD] at h
    obtain ⟨d1, d2, h1, h2, h3⟩ := zip_get h
    exact ⟨d1, d2, by simpa using h1, by simpa using h2, h3⟩
theorem zip_len : ∀ {as bs : List D}, (zipD as bs).length = min as.length bs.length
  | [], bs => by simp [zipD]
  | a :: as, [] => by simp [zipD]
  | a :: as, b :: bs => by simp [zipD, zip_len]
theorem si_enum (hc : X.calm = true) {np : Pos} {elts : List Expr} {kk : Nat} {tpos : Pos} (hn1 : n ≠ 1) (hm : X.mg "enumerate" = none) (ha : SA B X N F [e] [x]) (hg : L2.Gl X "enumerate") (he : starEach [e] X.env = (false, eval e X.env) :: starEach [] X.env) :
    SI B X N F n (.Tuple elts kk tpos) (.Call (.Name "enumerate" np) [e] [] pos) (.enum x) := by
  intro pins O ρ s S
  show Gw B X _ ((ev F ρ x).bind fun x => (seqItems x).bind fun l => .ok (enumD 0 l)) _
  rw [evs_one]
  refine si_call hm boot_enumerate ha hg (by decide) (by decide) he rfl S fun ds us s1 S1 hd => ?_
  cases hd with
  | nil => trivial
  | cons h1 t =>
    cases t with
    | cons _ _ => trivial
    | nil =>
      rename_i v d
      show Gw B X _ ((seqItems d).bind fun l => .ok (enumD 0 l)) _
      cases hs : seqItems d with
      | err c => cases d <;> cases hs
      | stuck => trivial
      | ok l =>
        show wpAny _ _ _ _ _ _
        obtain ⟨o, H, fp, Y, Sr⟩ := src_of (P := X.prog) (w := X.w) h1 hs
        have hh := S1.inv.ok.hd hc
        refine ev_enum_begins Sr.beg Sr.ok fun h' he ho hz kp => ?_
        generalize hZ : s1.heap.objs.size = Z at he ho hz
        have fpl : ∀ b ∈ fp, b < Z := fun b hb => by
          obtain ⟨_, o, e⟩ := Sr.fps b hb
          rw [← hZ]
          exact Heap.lt_size e
        have hit : Z ∉ fp := fun z => Nat.lt_irrefl _ (fpl _ z)
        obtain ⟨st, Dr, st0⟩ := Sr.dr X.A.in1 Z hh hit
        have hne : (Z + 1 : Nat) ≠ Z := Nat.succ_ne_self _
        have hef : (Z + 1 : Nat) ∉ Z :: fp := fun z => by
          rcases List.mem_cons.mp z with q | q
          · exact hne q
          · exact absurd (Nat.lt_trans (Nat.lt_succ_self _) (fpl _ q)) (Nat.lt_irrefl _)
        have W := Wk.enum (elts := elts) (x1 := kk) (pos := tpos) Dr (Z + 1) hne hef List.mem_cons_self
        have stt : (fun i h => (∃ old, IsEnum h (Z + 1) Z ((0 : Int) + ((i : Nat) : Int)) old) ∧ st i h) 0 h' := ⟨⟨_, by simpa using he⟩, st0 h' (Sr.beg.keeps _ _ Sr.ok kp) ho⟩
        have I2 : Inv X pins [] X.H_0 { s1 with heap := h' } := S1.inv.kept (t' := s1.toks) kp
        refine W.self 0 { s1 with heap := h' } _ _ stt ?_
        refine ⟨_, _, _, _, _, rfl, I2, Le.kept kp (Nat.le_refl _), by rw [enum_len]; exact W, stt, fun b hb => ?_, fun b hb => ?_, by rw [enum_len]; exact Sr.len, fun b hb => ?_, fun O' w i v s2 d hd k q hy => ?_⟩
        · have : b = Z + 1 ∨ b = Z := by simpa using hb
          refine push_none ?_
          rw [hZ]
          rcases this with q | q
          · rw [q]; exact Nat.le_succ _
          · exact Nat.le_of_eq q.symm
        · have : b = Z + 1 ∨ b = Z := by simpa using hb
          have hb' : s1.heap.objs.size ≤ b := by
            rw [hZ]
            rcases this with q | q
            · rw [q]; exact Nat.le_succ _
            · exact Nat.le_of_eq q.symm
          exact S1.inv.fpOk hb' (S1.inv.hok.fresh hb')
        · have new : ∀ b, Z ≤ b → ¬ O b := fun b hb z => by
            obtain ⟨o, e⟩ := S1.dom b z
            have := Heap.lt_size e
            rw [hZ] at this
            exact absurd (Nat.lt_of_lt_of_le this hb) (Nat.lt_irrefl _)
          rcases List.mem_cons.mp hb with q | hb
          · rw [q]; exact ⟨new _ (Nat.le_succ _), _, he⟩
          · rcases List.mem_cons.mp hb with q | hb
            · rw [q]; exact ⟨new _ (Nat.le_refl _), _, ho⟩
            · obtain ⟨no, o, e⟩ := Sr.fps b hb
              exact ⟨no, o, kp b o e⟩
        · obtain ⟨T, t, y, ev', hP, hT⟩ := hy
          obtain ⟨d', hd1, hd2⟩ := enum_get hd
          subst hd2
          refine ⟨fun z => absurd z hn1, fun _ ds' eds hl => ?_⟩
          cases eds
          refine ⟨T, [.int ((0 : Int) + (i : Int)) t, y], ev', hT, .cons ?_ (.cons (Sr.yld O' (fun b hb => ?_) i y s2.heap s2.toks d' hd1 (fun b o e no => k b o (kp b o e) no) q hP) .nil)⟩
          · have e : (0 : Int) + (i : Int) = ((0 + i : Nat) : Int) := by omega
            rw [e]
            exact .int _ t
          · rcases w b hb with z | z | z
            · exact .inl z
            · have : b = Z + 1 ∨ b = Z := by simpa using z
              refine .inr (push_none ?_)
              rw [hZ]
              rcases this with q | q
              · rw [q]; exact Nat.le_succ _
              · exact Nat.le_of_eq q.symm
            · exact .inr (none_of (fun o e => kp b o e) z)
theorem si_zip (hc : X.calm = true) {np : Pos} {elts : List Expr} {kk : Nat} {tpos : Pos} {y : Ev.X} (hn1 : n ≠ 1) (hm : X.mg "zip" = none) (ha : SA B X N F [e, a] [x, y]) (hg : L2.Gl X "zip") (he : starEach [e, a] X.env = (false, eval e X.env) :: starEach [a] X.env) (he2 : starEach [a] X.env = [(false, eval a X.env)]) :
    SI B X N F n (.Tuple elts kk tpos) (.Call (.Name "zip" np) [e, a] [] pos) (.zip x y) := by
  intro pins O ρ s S
  show Gw B X _ ((ev F ρ x).bind fun x => (ev F ρ y).bind fun y => (seqItems x).bind fun l => (seqItems y).bind fun m => .ok (zipD l m)) _
  rw [evs_two]
  refine si_call hm boot_zip ha hg (by decide) (by decide) he (by rw [he2]; rfl) S fun ds us s1 S1 hd => ?_
  cases hd with
  | nil => trivial
  | cons h1 t =>
    cases t with
    | nil => trivial
    | cons h2 t =>
      cases t with
      | cons _ _ => trivial
      | nil =>
        rename_i v1 d1 v2 d2
        show Gw B X _ ((seqItems d1).bind fun l => (seqItems d2).bind fun m => .ok (zipD l m)) _
        cases hs1 : seqItems d1 with
        | err c => cases d1 <;> cases hs1
        | stuck => trivial
        | ok l1 =>
          show Gw B X _ ((seqItems d2).bind fun m => .ok (zipD l1 m)) _
          cases hs2 : seqItems d2 with
          | err c => cases d2 <;> cases hs2
          | stuck => trivial
          | ok l2 =>
            show wpAny _ _ _ _ _ _
            obtain ⟨o1, H1, fp1, Y1, Sr1⟩ := src_of (P := X.prog) (w := X.w) h1 hs1
            obtain ⟨o2, H2, fp2, Y2, Sr2⟩ := src_of (P := X.prog) (w := X.w) h2 hs2
            have hh := S1.inv.ok.hd hc
            refine zip_begins2 Sr1.beg Sr2.beg Sr1.ok Sr2.ok fun h' hzip hTI hTO ho1 ho2 hz kp => ?_
            generalize hZ : s1.heap.objs.size = Z at hzip hTI hTO ho1 ho2 hz
            have fpl1 : ∀ b ∈ fp1, b < Z := fun b hb => by
              obtain ⟨_, o, e⟩ := Sr1.fps b hb
              rw [← hZ]
              exact Heap.lt_size e
            have fpl2 : ∀ b ∈ fp2, b < Z := fun b hb => by
              obtain ⟨_, o, e⟩ := Sr2.fps b hb
              rw [← hZ]
              exact Heap.lt_size e
            obtain ⟨st1, Dr1, st01⟩ := Sr1.dr X.A.in1 Z hh fun z => Nat.lt_irrefl _ (fpl1 _ z)
            obtain ⟨st2, Dr2, st02⟩ := Sr2.dr X.A.in1 (Z + 1) hh fun z => absurd (Nat.lt_trans (Nat.lt_succ_self _) (fpl2 _ z)) (Nat.lt_irrefl _)
            have Sep : ZipSep2 (Z + 4) (Z + 2) (Z + 3) Z (Z + 1) (Z :: fp1) ((Z + 1) :: fp2) := zip_sep2 fpl1 fpl2
            have W := Wk.zip (elts := elts) (x1 := kk) (pos := tpos) Sep Dr1 Dr2
            have stt : (fun i h => IsZip h (Z + 4) (Z + 2) (Z + 3) .none ∧ IsTupOf2 h (Z + 2) (.ref Z) (.ref (Z + 1)) ∧ (∃ a1 a2, IsTupOf2 h (Z + 3) a1 a2) ∧ st1 i h ∧ st2 i h) 0 h' :=
              ⟨hzip, hTI, ⟨_, _, hTO⟩, st01 h' (Sr1.beg.keeps _ _ Sr1.ok kp) ho1, st02 h' (Sr2.beg.keeps _ _ Sr2.ok kp) ho2⟩
            have I2 : Inv X pins [] X.H_0 { s1 with heap := h' } := S1.inv.kept (t' := s1.toks) kp
            have hwr : ∀ b ∈ [Z + 4, Z + 3, Z, Z + 1], Z ≤ b := fun b hb => by
              have : b = Z + 4 ∨ b = Z + 3 ∨ b = Z ∨ b = Z + 1 := by simpa using hb
              rcases this with q | q | q | q <;> (rw [q]; first | exact Nat.le_refl _ | exact Nat.le_add_right _ _)
            have new : ∀ b, Z ≤ b → ¬ O b := fun b hb z => by
              obtain ⟨o, e⟩ := S1.dom b z
              have := Heap.lt_size e
              rw [hZ] at this
              exact absurd (Nat.lt_of_lt_of_le this hb) (Nat.lt_irrefl _)
            refine W.self 0 { s1 with heap := h' } _ _ stt ?_
            refine ⟨_, _, _, _, _, rfl, I2, Le.kept kp (Nat.le_refl _), by rw [zip_len]; exact W, stt, fun b hb => push_none (by rw [hZ]; exact hwr b hb), fun b hb => S1.inv.fpOk (by rw [hZ]; exact hwr b hb) (S1.inv.hok.fresh (by rw [hZ]; exact hwr b hb)), by rw [zip_len]; exact Nat.le_trans (Nat.min_le_left _ _) Sr1.len, fun b hb => ?_, fun O' w i v s2 d hd k q hy => ?_⟩
            · rcases List.mem_cons.mp hb with q | hb
              · rw [q]; exact ⟨new _ (Nat.le_add_right _ _), _, hzip⟩
              · rcases List.mem_cons.mp hb with q | hb
                · rw [q]; exact ⟨new _ (Nat.le_add_right _ _), _, hTI⟩
                · rcases List.mem_cons.mp hb with q | hb
                  · rw [q]; exact ⟨new _ (Nat.le_add_right _ _), _, hTO⟩
                  · rcases List.mem_append.mp hb with hb | hb
                    · rcases List.mem_cons.mp hb with q | hb
                      · rw [q]; exact ⟨new _ (Nat.le_refl _), _, ho1⟩
                      · obtain ⟨no, o, e⟩ := Sr1.fps b hb
                        exact ⟨no, o, kp b o e⟩
                    · rcases List.mem_cons.mp hb with q | hb
                      · rw [q]; exact ⟨new _ (Nat.le_succ _), _, ho2⟩
                      · obtain ⟨no, o, e⟩ := Sr2.fps b hb
                        exact ⟨no, o, kp b o e⟩
            · obtain ⟨T, y1, y2, ev', hP1, hP2, hT⟩ := hy
              obtain ⟨d1', d2', hd1, hd2, hd3⟩ := zip_get hd
              subst hd3
              have w' : ∀ b, O' b → O b ∨ s1.heap.get? b = none := fun b hb => by
                rcases w b hb with z | z | z
                · exact .inl z
                · exact .inr (push_none (by rw [hZ]; exact hwr b z))
                · exact .inr (none_of (fun o e => kp b o e) z)
              refine ⟨fun z => absurd z hn1, fun _ ds' eds hl => ?_⟩
              cases eds
              exact ⟨T, [y1, y2], ev', hT, .cons (Sr1.yld O' w' i y1 s2.heap s2.toks d1' hd1 (fun b o e no => k b o (kp b o e) no) q hP1) (.cons (Sr2.yld O' w' i y2 s2.heap s2.toks d2' hd2 (fun b o e no => k b o (kp b o e) no) q hP2) .nil)⟩
end
end Ev
namespace Ev
open PySem PySem.Spec PyProof.Rows L2
section
variable {B : Bk} {X Y : Cx} {N M : List Str} {F : Fx} {pins : List (Addr × Obj)} {O O' Z : Addr → Prop} {ρ σ : List Sl} {s s1 s2 s3 s' : Shared} {pos p2 : Pos} {tg e : Expr} {n : Nat} {h' : Heap}
/-- records of ours have turned -/
theorem Inv.turns {H : Hp} {ch : List Addr} {t' : Nat} (I : Inv X pins [] H s) (hch : ∀ b ∈ ch, FpOk X pins H b) (k : ∀ b o, b ∉ ch → s.heap.get? b = some o → h'.get? b = some o) : Inv X pins [] H { s with heap := h', toks := t' } := by
  have nit : ∀ b u, H b = some u → b ∉ ch := fun b u e z => by rw [(hch b z).1] at e; cases e
  refine I.step (g' := s.gens) (d' := s.drawn) (ch := ch) (fun b hb => ?_) (fun b o _ _ hc e _ => k b o hc e) (fun b o _ _ hc e _ => ⟨o.slots, k b o hc e⟩) (fun _ _ _ _ n => n)
    (fun b o hc e => ⟨o, k b o hc e⟩) (fun _ _ e => e) (fun _ _ _ e => e) (fun b ps e => ⟨#[], by rw [e]; simp⟩) (fun m hm => ?_) (fun b u e => ?_) I.bare
  · obtain ⟨f0, f1, f2, f3, f4, f5⟩ := hch b hb
    exact ⟨f3, f1, f4, f5⟩
  · obtain ⟨o, es, ep, ho, r⟩ := hm
    exact ⟨o, es, ep, k _ o (fun z => (hch _ z).2.1 rfl) ho, r⟩
  · refine (I.hok b u e).stay (fun c v hc q => k c v ?_ q) (fun _ q => q) fun _ _ q => q
    rcases hc with z | z
    · rw [z]; exact nit b u e
    · exact nit c _ z
theorem Ste.turns {ch : List Addr} {t' : Nat} (S : Ste B X pins O N ρ s) (hch : ∀ b ∈ ch, FpOk X pins X.H_0 b) (hO : ∀ b ∈ ch, O b) (k : ∀ b o, b ∉ ch → s.heap.get? b = some o → h'.get? b = some o) (hl : ∀ b ∈ ch, ∃ o, h'.get? b = some o) (q : s.toks ≤ t') :
    Ste B X pins O N ρ { s with heap := h', toks := t' } := by
  obtain ⟨m, ⟨o, es, ep, ho, r⟩, he⟩ := S.env
  refine ⟨Inv.turns S.inv hch k, Nat.le_trans S.tk q, S.fr, fun b hb => ?_, m, ⟨o, es, ep, k _ o (fun z => (hch _ z).2.1 rfl) ho, r⟩, fun x d hx e v => ?_⟩
  · obtain ⟨o, e⟩ := S.dom b hb
    by_cases z : b ∈ ch
    · exact hl b z
    · exact ⟨o, k b o z e⟩
  · obtain ⟨u, hu, hd⟩ := he x d hx e v
    refine ⟨u, ?_, hd.mono (fun b o no e => k b o (fun z => no (hO b z)) e) q fun _ z => z⟩
    rcases hu with z | ⟨kk, c, ec, oc, eo, ed⟩
    · exact .inl z
    · exact .inr ⟨kk, c, ec, oc, k c oc (fun z => (hch c z).2.2.2.2.1 x c ec rfl) eo, ed⟩
theorem lk_turns {ch : List Addr} {t' : Nat} {y : Str} {w : Value} (hch : ∀ b ∈ ch, FpOk X pins X.H_0 b) (k : ∀ b o, b ∉ ch → s.heap.get? b = some o → h'.get? b = some o) (l : Lk X s y w) : Lk X { s with heap := h', toks := t' } y w := by
  obtain ⟨m, ⟨o, es, ep, ho, r⟩, hu⟩ := l
  refine ⟨m, ⟨o, es, ep, k _ o (fun z => (hch _ z).2.1 rfl) ho, r⟩, ?_⟩
  rcases hu with z | ⟨kk, c, ec, oc, eo, ed⟩
  · exact .inl z
  · exact .inr ⟨kk, c, ec, oc, k c oc (fun z => (hch c z).2.2.2.2.1 y c ec rfl) eo, ed⟩
theorem Lz.turns {ch : List Addr} {t' : Nat} (k : ∀ b o, b ∉ ch → s.heap.get? b = some o → h'.get? b = some o) (hZ : ∀ b ∈ ch, Z b) (q : s.toks ≤ t') : Lz X Z s { s with heap := h', toks := t' } :=
  ⟨fun b o e n => ⟨fun _ => k b o (fun z => n (hZ b z)) e, o.slots, k b o (fun z => n (hZ b z)) e⟩, q⟩
theorem Lz.kpt (l : Lz X Z s s1) (fr : ∀ b ∈ X.env.locals :: X.fs, O b) (hZ : ∀ b, Z b → O b) : ∀ b o, ¬ O b → s.heap.get? b = some o → s1.heap.get? b = some o := fun b o no e => (l.1 b o e fun z => no (hZ b z)).1 fun z => no (fr b z)
/-- one turn: what comes is stored -/
theorem walk_turn {I : Addr} {fp wr : List Addr} {Yp : Nat → Value → Heap → Nat → Prop} {st : Nat → Heap → Prop} {i : Nat} {ts : List Str} {d : D} {own : List Sl} {E : Value → Shared → Prop} {Q : Shared → Prop} (hc : X.calm = true) (W : Wk X.prog X.w X.A tg I fp wr n Yp st) (S : Ste B X pins O N ρ s) (hst : st i s.heap) (hi : i < n)
    (t : Tg tg ts) (hw : ∀ x ∈ ts, Wrt X x ∧ x ∈ N) (hO : ∀ c, Zx X c → O c) (hwr : ∀ b ∈ wr, O b ∧ FpOk X pins X.H_0 b) (hfp : ∀ b ∈ fp, ¬ Zx X b ∧ b ∉ X.env.locals :: X.fs)
    (hy : ∀ v (s2 : Shared), (∀ b o, ¬ O b → s.heap.get? b = some o → s2.heap.get? b = some o) → s.toks ≤ s2.toks → Yp i v s2.heap s2.toks → IT B O ts.length v d s2) (hb : bindT ts.length d = .ok own)
    (hQ : ∀ s2, Ste B X pins O N (putS N ρ ts own) s2 → st (i + 1) s2.heap → Lz X (fun b => b ∈ wr ∨ Zx X b) s s2 → Kl X ts s s2 → Q s2) :
    wpAny (model X.prog X.w) X.A (pyNext (.ref I)) (fun r s1 => ∃ v, r = some v ∧ wpAny (model X.prog X.w) X.A (letOwnedTupleGo tg (.ref I) v) (fun _ s1' => wpAny (model X.prog X.w) X.A (assign tg X.env v) (fun _ s2 => Q s2) E s1') E s1) E s := by
  refine W.goes i s (fun v s1' => wpAny (model X.prog X.w) X.A (assign tg X.env v) (fun _ s2 => Q s2) E s1') E hi hst S.tk fun v h' tk y st' k q => ?_
  have S1 : Ste B X pins O N ρ { s with heap := h', toks := tk } := S.turns (fun b hb => (hwr b hb).2) (fun b hb => (hwr b hb).1) k (W.live _ _ st') q
  have it : IT B O ts.length v d { s with heap := h', toks := tk } := hy v { s with heap := h', toks := tk } (fun b o no e => k b o (fun z => no (hwr b z).1) e) q y
  refine thn (asg_tg hc S1 t hw hO it hb) fun _ s2 ⟨S2, l2, kl⟩ => hQ s2 S2 (W.frame _ _ _ st' fun b hb o e => (l2.1 b o e (hfp b hb).1).1 (hfp b hb).2) ?_ fun y w hy l => kl y w hy (lk_turns (fun b hb => (hwr b hb).2) k l)
  exact (Lz.turns k (fun b hb => .inl hb) q).trans (l2.mono fun b z => .inr z)
theorem walk_stop {I : Addr} {fp wr : List Addr} {Yp : Nat → Value → Heap → Nat → Prop} {st : Nat → Heap → Prop} {E : Value → Shared → Prop} {Q : Shared → Prop} (W : Wk X.prog X.w X.A tg I fp wr n Yp st) (hI : Inv X pins [] X.H_0 s) (hst : st n s.heap) (hwr : ∀ b ∈ wr, FpOk X pins X.H_0 b)
    (hQ : ∀ s2, Inv X pins [] X.H_0 s2 → (∀ b o, b ∉ wr → s.heap.get? b = some o → s2.heap.get? b = some o) → s.toks ≤ s2.toks → Q s2) :
    wpAny (model X.prog X.w) X.A (pyNext (.ref I)) (fun r s1 => r = none ∧ Q s1) E s :=
  W.stops s Q E hst fun h' tk k q => hQ _ (Inv.turns hI hwr k) k q
theorem Ste.forget (S : Ste B X pins O N ρ s) (h : ∀ (i : Nat) d, σ[i]? = some (.dat d) → ρ[i]? = some (.dat d)) : Ste B X pins O N σ s :=
  ⟨S.inv, S.tk, S.fr, S.dom, let ⟨m, hn, he⟩ := S.env; ⟨m, hn, fun x d hx e v => he x d hx (h _ _ e) v⟩⟩
/-- a clause's tests -/
def STs (B : Bk) (X : Cx) (N : List Str) (F : Fx) (ifs : List Expr) (x : Option Ev.X) : Prop :=
  ∀ (pins : List (Addr × Obj)) (O : Addr → Prop) (ρ : List Sl) (s : Shared), Ste B X pins O N ρ s → Gw B X (Wm X (forIn ifs true fun c r => if r = true then do let ok ← isTrue c X.env (eval c X.env); pure (ForInStep.yield ok) else pure (ForInStep.yield r)) s) (evIf F ρ x) (Pt X pins s)
theorem sts_nil : STs B X N F [] none := fun pins O ρ s S => wpAny_tests_nil ⟨S.inv, Le.refl, rfl⟩
theorem sts_one {c : Expr} {x : Ev.X} (h : ST B X N F c x) : STs B X N F [c] (some x) := fun pins O ρ s S => (h pins O ρ s S).rule fun Q hq => wpAny_tests_one hq
/-- ts: the names that the block's own targets bind -/
structure BlkS (N : List Str) (sc scope : Scope) (ts : List Str) : Prop where
  kind : scope.kind = .function
  uniq : ∀ y ∈ scope.names, scope.names.lookup y.1 = some y.2
  free : ∀ y ∈ scope.names, y.2 = .free → sc.names.lookup y.1 = some .cell ∨ sc.names.lookup y.1 = some .free
  own : ∀ y ∈ scope.names, y.2 = .local ∨ y.2 = .cell → y.1 ∈ ts ∨ y.1 ∉ N
  wrt : ∀ x ∈ ts, scope.names.lookup x = some .local ∨ scope.names.lookup x = some .cell
theorem BlkS.blk {sc scope : Scope} {ts : List Str} (h : BlkS N sc scope ts) (I : Inv X pins [] X.H_0 s) : BlkOk X.N sc scope [] := by
  have e : X.N = [] := List.eq_nil_of_length_eq_zero I.len.symm
  exact ⟨h.kind, h.uniq, fun p hp => (by cases hp), h.free, fun y _ _ => .inr (by rw [e]; simp)⟩
abbrev bCl (scope : Scope) (X : Cx) (C : Addr) : List (Str × Addr) := cellsFrom (C + 1) scope.names (cloFrom X.env.cells scope.names [])
abbrev bEnv (scope : Scope) (X : Cx) (C : Addr) : Env := compEnvC scope (bCl scope X C) C X.env
abbrev bCx (scope : Scope) (X : Cx) (s3 : Shared) (ex : List Addr) : Cx := X.blk s3 X.H_0 scope (bEnv scope X s3.heap.objs.size) ex
abbrev bSt (scope : Scope) (s3 : Shared) : Shared := { s3 with heap := pushCells (s3.heap.push { cls := .type "dict", data := .dict #[] }) scope.names }
theorem bSt_kept {scope : Scope} : ∀ b o, s3.heap.get? b = some o → (bSt scope s3).heap.get? b = some o := fun b o e => pushCells_keeps _ _ _ _ (Heap.get?_push_of_some _ e)
/-- a captured name's cell -/
theorem blk_cell {sc scope : Scope} {ts : List Str} {y : Str} (ok : BlkS N X.env.scope scope ts) (I : Inv X pins [] X.H_0 s3) (hl : scope.names.lookup y = some .free) : ∃ c, (bEnv scope X s3.heap.objs.size).cells.lookup y = some c ∧ X.env.cells.lookup y = some c := by
  have hfree : ∀ y ∈ scope.names, y.2 = .free → ∃ c, X.env.cells.lookup y.1 = some c := fun y hy e => by
    rcases ok.free y hy e with k | k
    · exact I.ok.has _ (.inl k)
    · exact I.ok.has _ (.inr k)
  have hcl : (bEnv scope X s3.heap.objs.size).cells = cellsFrom (s3.heap.push { cls := .type "dict", data := .dict #[] }).objs.size scope.names (cloFrom X.env.cells scope.names []) := by rw [Heap.size_push]; rfl
  have hy : (y, NameKind.free) ∈ scope.names := PySem.mem_of_lookup hl
  obtain ⟨c', e'⟩ := mem_lookup (cells_acc (names := scope.names) (n := (s3.heap.push { cls := .type "dict", data := .dict #[] }).objs.size) (cloFrom_has (cells := X.env.cells) (acc := []) hy))
  rw [← hcl] at e'
  refine ⟨c', e', ?_⟩
  rw [hcl] at e'
  rcases cells_mem (PySem.mem_of_lookup e') with hm | ⟨h1, _, _⟩
  · rcases cloFrom_mem hm with hm | ⟨h1, rfl⟩
    · cases hm
    · obtain ⟨c, hc⟩ := hfree _ h1 rfl
      rw [hc]
      rfl
  · have := ok.uniq _ h1
    rw [hl] at this; cases this
theorem ix_far {x : Str} {N : List Str} : ∀ {M : List Str}, x ∉ M → ix x (M ++ N) = M.length + ix x N
  | [], _ => by simp
  | y :: M, h => by
    have h1 : ¬ y = x := fun e => h (by rw [e]; exact List.mem_cons_self)
    show (if y = x then 0 else ix x (M ++ N) + 1) = _
    rw [if_neg h1, ix_far fun m => h (List.mem_cons_of_mem _ m), List.length_cons]
    omega
theorem ix_near {x : Str} {N : List Str} : ∀ {M : List Str}, x ∈ M → ix x (M ++ N) < M.length
  | y :: M, h => by
    rw [List.cons_append]
    unfold ix
    split
    · simp
    · rename_i hn
      rcases List.mem_cons.mp h with e | h
      · exact absurd e.symm hn
      · simp only [List.length_cons]
        exact Nat.succ_lt_succ (ix_near h)
/-- a new object, a new list for what a comprehension makes -/
abbrev nSt (s2 : Shared) (o : Obj) : Shared := { s2 with heap := s2.heap.push o }
abbrev bO (O : Addr → Prop) (wr : List Addr) (D : Addr) (X' : Cx) : Addr → Prop := fun b => O b ∨ b ∈ wr ∨ b = D ∨ Zx X' b
theorem blk_ste {scope : Scope} {ts : List Str} {wr : List Addr} {o : Obj} (S : Ste B X pins O N ρ s) (I2 : Inv X pins [] X.H_0 s2) (l : Le X s s2) (ok : BlkS N X.env.scope scope ts) (hf : o.isFreed = false) (hwr : ∀ b ∈ wr, FpOk X pins X.H_0 b ∧ s.heap.get? b = none ∧ ∃ o, s2.heap.get? b = some o) :
    Inv X pins [] X.H_0 (nSt s2 o) ∧ (∀ b ∈ s2.heap.objs.size :: wr, FpOk X pins X.H_0 b) ∧ (∀ c, Zx (bCx scope X (nSt s2 o) (s2.heap.objs.size :: wr)) c → s2.heap.objs.size < c) ∧
    Ste B (bCx scope X (nSt s2 o) (s2.heap.objs.size :: wr)) [] (bO O wr s2.heap.objs.size (bCx scope X (nSt s2 o) (s2.heap.objs.size :: wr))) (ts ++ N) (List.replicate ts.length .un ++ ρ) (bSt scope (nSt s2 o)) := by
  generalize hD : s2.heap.objs.size = D
  have I3 : Inv X pins [] X.H_0 (nSt s2 o) := I2.kept (t' := s2.toks) fun b o e => Heap.get?_push_of_some _ e
  have h3 : (nSt s2 o).heap.objs.size = D + 1 := by show (s2.heap.push o).objs.size = _; rw [Heap.size_push, hD]
  have gD : (nSt s2 o).heap.get? D = some o := by rw [← hD]; exact Heap.get?_push_size _ hf
  have k3 : ∀ b o', s2.heap.get? b = some o' → (nSt s2 o).heap.get? b = some o' := fun b o' e => Heap.get?_push_of_some _ e
  generalize hs3 : nSt s2 o = s3 at I3 h3 gD k3 ⊢
  have hex : ∀ b ∈ D :: wr, FpOk X pins X.H_0 b ∧ b < s3.heap.objs.size := fun b hb => by
    rcases List.mem_cons.mp hb with q | hb
    · rw [q, h3]
      exact ⟨I2.fpOk (Nat.le_of_eq hD) (I2.hok.fresh (Nat.le_of_eq hD)), Nat.lt_succ_self _⟩
    · obtain ⟨f, _, o', e⟩ := hwr b hb
      exact ⟨f, Heap.lt_size (k3 b o' e)⟩
  have hN : X.N.Nodup := by rw [List.eq_nil_of_length_eq_zero I2.len.symm]; exact List.nodup_nil
  have I4 : Inv (bCx scope X s3 (D :: wr)) [] [] (bCx scope X s3 (D :: wr)).H_0 (bSt scope s3) := block_start (own := []) I3 (ok.blk I3) hN hex
  have hz : ∀ c, Zx (bCx scope X s3 (D :: wr)) c → D < c := fun c hc => by
    rcases hc with e | ⟨x, e1, _, e2⟩
    · have e : c = s3.heap.objs.size := e
      rw [e, h3]; exact Nat.lt_succ_self _
    · have := I4.ok.cab x c e2 e1
      have : s3.heap.objs.size ≤ c := this
      rw [h3] at this
      exact Nat.lt_of_lt_of_le (Nat.lt_succ_self _) this
  refine ⟨I3, fun b hb => (hex b hb).1, hz, I4, Nat.le_trans S.tk ?_, fun b hb => ?_, fun b hb => ?_, fun _ => none, ?_, fun x d hx e v => ?_⟩
  · have : s3.toks = s2.toks := by rw [← hs3]
    show s.toks ≤ s3.toks
    rw [this]
    exact l.2
  · rcases List.mem_cons.mp hb with e | hb
    · exact .inr (.inr (.inr (.inl e)))
    · exact .inl (S.fr b (I3.stkSub b hb))
  · rcases hb with z | z | z | z
    · obtain ⟨o', e⟩ := S.dom b z
      obtain ⟨sl, e⟩ := (l.1 b o' e).2
      exact ⟨_, bSt_kept _ _ (k3 _ _ e)⟩
    · obtain ⟨_, _, o', e⟩ := hwr b z
      exact ⟨_, bSt_kept _ _ (k3 _ _ e)⟩
    · rw [z]
      exact ⟨_, bSt_kept _ _ gD⟩
    · rcases z with z | ⟨x, e1, _, _⟩
      · rw [z]
        obtain ⟨m, ⟨o', _, _, e, _⟩, _⟩ := I4.loc
        exact ⟨o', e⟩
      · obtain ⟨w, o', e, _⟩ := I4.cell x b e1
        exact ⟨o', e⟩
  · exact Heap.Ns.keeps (Heap.Ns.new ..) fun b o e => pushCells_keeps _ _ _ _ e
  · by_cases hxt : x ∈ ts
    · have := ix_near (N := N) hxt
      rw [List.getElem?_append_left (by simpa using this), List.getElem?_replicate_of_lt this] at e
      cases e
    · rw [ix_far hxt, List.getElem?_append_right (by simp)] at e
      simp only [List.length_replicate, Nat.add_sub_cancel_left] at e
      have hxN : x ∈ N := by
        rcases List.mem_append.mp hx with z | z
        · exact absurd z hxt
        · exact z
      have hfr : scope.names.lookup x = some .free ∧ ((bEnv scope X s3.heap.objs.size).kindOf x = some .cell ∨ (bEnv scope X s3.heap.objs.size).kindOf x = some .free) := by
        have hsc : (bEnv scope X s3.heap.objs.size).scope = relS scope X.env.scope := rfl
        have key : ∀ k, (bEnv scope X s3.heap.objs.size).scope.names.lookup x = some k → k = .local ∨ k = .cell ∨ k = .free → scope.names.lookup x = some .free ∧ ((bEnv scope X s3.heap.objs.size).kindOf x = some .cell ∨ (bEnv scope X s3.heap.objs.size).kindOf x = some .free) := fun k hk hk' => by
          have hk0 := hk
          rw [hsc] at hk
          obtain ⟨k', e, r⟩ := lookup_relS hk
          have no : ¬ (k' = .local ∨ k' = .cell) := fun hh => by
            rcases ok.own _ (PySem.mem_of_lookup e) hh with e' | e'
            · exact hxt e'
            · exact e' hxN
          rcases r with rfl | ⟨rfl, rfl⟩
          · rcases hk' with rfl | rfl | rfl
            · exact absurd (.inl rfl) no
            · exact absurd (.inr rfl) no
            · exact ⟨e, .inr hk0⟩
          · exact ⟨e, .inl hk0⟩
        rcases v with v | v | v
        · exact key _ v (.inl rfl)
        · exact key _ v (.inr (.inl rfl))
        · exact key _ v (.inr (.inr rfl))
      obtain ⟨m, hn, he⟩ := S.env
      have hvis : Vis X.env.scope x := (ok.free _ (PySem.mem_of_lookup hfr.1) rfl).elim (fun k => .inr (.inl k)) (fun k => .inr (.inr k))
      obtain ⟨u, hu, hd⟩ := he x d hxN e hvis
      obtain ⟨c, h1, h2⟩ := blk_cell (sc := scope) ok I3 hfr.1
      refine ⟨u, .inr ⟨hfr.2, c, h1, ?_⟩, ?_⟩
      · rcases hu with ⟨k, _⟩ | ⟨_, c', e', z⟩
        · have k : X.env.scope.names.lookup x = some .local := k
          rcases ok.free _ (PySem.mem_of_lookup hfr.1) rfl with k' | k' <;> rw [show X.env.scope.names.lookup x = _ from k'] at k <;> cases k
        · rw [h2] at e'; cases e'
          exact (l.cell z).keeps fun b o' e => bSt_kept _ _ (k3 _ _ e)
      · have g : DV B (bO O wr D (bCx scope X s3 (D :: wr))) s.heap s.toks u d := hd.grow fun b hb => by
          rcases hb with z | z | z | z
          · exact .inl z
          · exact .inr (hwr b z).2.1
          · exact .inr (l.none (push_none (by rw [z, hD]; exact Nat.le_refl _)))
          · exact .inr (l.none (push_none (by rw [hD]; exact Nat.le_of_lt (hz b z))))
        refine g.mono (fun b o' no e => bSt_kept _ _ (k3 _ _ (l.kpt S.fr b o' e fun z => no (.inl z)))) ?_ fun _ z => z
        have : s3.toks = s2.toks := by rw [← hs3]
        show s.toks ≤ s3.toks
        rw [this]
        exact l.2
end
end Ev
namespace Ev
open PySem PySem.Spec PyProof.Rows L2
theorem R.bind_ok {α β : Type} {r : R α} {f : α → R β} {b : β} (h : r.bind f = .ok b) : ∃ a, r = .ok a ∧ f a = .ok b := by
  cases r with
  | ok a => exact ⟨a, rfl, h⟩
  | err c => cases h
  | stuck => cases h
theorem R.calm_ok {α : Type} {r : R α} {b : α} (h : r.calm = .ok b) : r = .ok b := by
  cases r with
  | ok a => exact h
  | err c => cases h
  | stuck => cases h
theorem R.calm_err {α : Type} {r : R α} {c : Nat} : r.calm ≠ .err c := by
  cases r <;> exact fun h => nomatch h
theorem filtR_ok {f : D → R (Option D)} {d : D} {ds r : List D} (h : filtR f (d :: ds) = .ok r) : ∃ o r', f d = .ok o ∧ filtR f ds = .ok r' ∧ r = (match o with | some x => x :: r' | none => r') := by
  obtain ⟨o, h1, h⟩ := R.bind_ok (r := f d) h
  obtain ⟨r', h2, h⟩ := R.bind_ok (r := filtR f ds) h
  cases h
  exact ⟨o, r', h1, h2, rfl⟩
/-- one item of a comprehension; g: the slots with the item's own -/
def lcF (F : Fx) (g : List Sl → List Sl) (n : Nat) (xi : Option Ev.X) (x : Ev.X) : D → R (Option D) := fun d => (bindT n d).bind fun own => (evIf F (g own) xi).bind fun t => match t with
  | true => (ev F (g own) x).bind fun y => .ok (some y)
  | false => .ok none
section
variable {B : Bk} {X Y : Cx} {N M : List Str} {F : Fx} {pins : List (Addr × Obj)} {O O' Z : Addr → Prop} {ρ σ : List Sl} {s s1 s2 s3 s' : Shared} {pos p2 : Pos} {tg e : Expr} {n : Nat} {h' : Heap}
theorem Gw.ok {α β : Type} {W : (β → Shared → Prop) → Prop} {r : R α} {a : α} {Q : α → β → Shared → Prop} (h : Gw B X W r Q) (e : r = .ok a) : W (Q a) := by
  subst e
  exact h
theorem Lz.of_kept {wr : List Addr} (k : ∀ b o, b ∉ wr → s.heap.get? b = some o → s1.heap.get? b = some o) (hZ : ∀ b ∈ wr, Z b) (q : s.toks ≤ s1.toks) : Lz X Z s s1 :=
  ⟨fun b o e n => ⟨fun _ => k b o (fun z => n (hZ b z)) e, o.slots, k b o (fun z => n (hZ b z)) e⟩, q⟩
theorem blk_exit {scope : Scope} {wr : List Addr} {o : Obj} {s5 : Shared} (S : Ste B X pins O N ρ s) (l : Le X s s2) (I3 : Inv X pins [] X.H_0 (nSt s2 o)) (hex : ∀ b ∈ s2.heap.objs.size :: wr, FpOk X pins X.H_0 b) (hnew : ∀ b ∈ wr, s.heap.get? b = none)
    (hz : ∀ c, Zx (bCx scope X (nSt s2 o) (s2.heap.objs.size :: wr)) c → s2.heap.objs.size < c)
    (I6 : Inv (bCx scope X (nSt s2 o) (s2.heap.objs.size :: wr)) [] [] (bCx scope X (nSt s2 o) (s2.heap.objs.size :: wr)).H_0 s5)
    (lz : Lz (bCx scope X (nSt s2 o) (s2.heap.objs.size :: wr)) (fun b => b ∈ wr ∨ b = s2.heap.objs.size ∨ Zx (bCx scope X (nSt s2 o) (s2.heap.objs.size :: wr)) b) (bSt scope (nSt s2 o)) s5) :
    Inv X pins [] X.H_0 s5 ∧ Le X s s5 ∧ FpOk X pins X.H_0 (nSt s2 o).heap.objs.size ∧ (∃ m, s5.heap.Ns (nSt s2 o).heap.objs.size m) ∧ s.heap.get? (nSt s2 o).heap.objs.size = none := by
  have cs : s2.heap.objs.size ≤ (nSt s2 o).heap.objs.size := by show _ ≤ (s2.heap.push o).objs.size; rw [Heap.size_push]; exact Nat.le_succ _
  refine ⟨I3.call' (ch := s2.heap.objs.size :: wr) I6.os I6.base I6.hok I6.bare fun b hb => ?_, ⟨fun b ob e => ?_, ?_⟩, I3.fpOk (Nat.le_refl _) (I3.hok.fresh (Nat.le_refl _)), ?_, l.none (push_none cs)⟩
  · obtain ⟨f0, f1, f2, f3, f4, f5⟩ := hex b hb
    exact ⟨f3, f1, f4, f5⟩
  · obtain ⟨sl, e2⟩ := (l.1 b ob e).2
    have k : ∀ b o', s2.heap.get? b = some o' → (bSt scope (nSt s2 o)).heap.get? b = some o' := fun b o' e => bSt_kept _ _ (Heap.get?_push_of_some _ e)
    have nz : ¬ (b ∈ wr ∨ b = s2.heap.objs.size ∨ Zx (bCx scope X (nSt s2 o) (s2.heap.objs.size :: wr)) b) := by
      rintro (z | z | z)
      · rw [hnew b z] at e; cases e
      · exact absurd (Heap.lt_size e2) (by rw [z]; exact Nat.lt_irrefl _)
      · exact absurd (Nat.lt_trans (hz b z) (Heap.lt_size e2)) (Nat.lt_irrefl _)
    have sub : b ∉ X.env.locals :: X.fs → b ∉ (bCx scope X (nSt s2 o) (s2.heap.objs.size :: wr)).env.locals :: (bCx scope X (nSt s2 o) (s2.heap.objs.size :: wr)).fs := fun hb z => by
      rcases List.mem_cons.mp z with q | q
      · exact absurd (Heap.lt_size e2) (by rw [q]; exact Nat.not_lt.mpr cs)
      · exact hb (I3.stkSub b q)
    refine ⟨fun hb => (lz.1 b ob (k b ob ((l.1 b ob e).1 hb)) nz).1 (sub hb), ?_⟩
    obtain ⟨sl', e3⟩ := (lz.1 b _ (k b _ e2) nz).2
    exact ⟨sl', e3⟩
  · have h1 : (bSt scope (nSt s2 o)).toks = s2.toks := rfl
    have h2 := lz.2
    rw [h1] at h2
    exact Nat.le_trans l.2 h2
  · obtain ⟨m, hn, _⟩ := I6.loc
    exact ⟨m, hn⟩
/-- a comprehension's list has come -/
def Pc (B : Bk) (X : Cx) (pins : List (Addr × Obj)) (O : Addr → Prop) (s : Shared) (d : D) (D C : Addr) (s' : Shared) : Prop :=
  Inv X pins [] X.H_0 s' ∧ Le X s s' ∧ DV B (fun b => O b ∨ b = C) s'.heap s'.toks (.ref D) d ∧ FpOk X pins X.H_0 C ∧ (∃ m, s'.heap.Ns C m) ∧ s.heap.get? C = none
theorem wm_no {α : Type} {tr : Sem α} {Q Q' : α → Shared → Prop} {E : Value → Shared → Prop} (hx : Y.xe = fun _ _ => False) (h : Wm Y tr s Q) (hQ : ∀ a s, Q a s → Q' a s) : wpAny (model Y.prog Y.w) Y.A tr Q' E s := by
  unfold Wm at h
  rw [hx] at h
  exact thnF h hQ
/-- the loop of a clause, its items appended to the list at D -/
theorem lc_loop {elt : Expr} {ifs : List Expr} {ts : List Str} {xi : Option Ev.X} {x : Ev.X} {I D : Addr} {fp wr : List Addr} {ds dn0 l : List Ev.D} {its0 : List Value} {ep0 : Nat} {Yp : Nat → Value → Heap → Nat → Prop} {st : Nat → Heap → Prop} {s4 : Shared} {RR : Result → Shared → Prop} {c : Code} {g : List Sl → List Sl} (hc : Y.calm = true) (hx : Y.xe = fun _ _ => False)
    (rule : ∀ (I' : Nat → Shared → Prop) (turn : ∀ n s, I' n s → wpAny (model Y.prog Y.w) Y.A (pyNext (.ref I)) (fun r s₁ => match r with
      | none => RR (.ok .next) s₁
      | some v => wpAny (model Y.prog Y.w) Y.A (letOwnedTupleGo tg (.ref I) v) (fun _ s₁' => wpAny (model Y.prog Y.w) Y.A (assign tg Y.env v) (fun _ s₂ =>
          wpAny (model Y.prog Y.w) Y.A (forIn ifs true fun c r => if r = true then do let ok ← isTrue c Y.env (eval c Y.env); pure (ForInStep.yield ok) else pure (ForInStep.yield r)) (fun ok s₃ =>
            if ok = true then wpAny (model Y.prog Y.w) Y.A (eval elt Y.env) (fun x s₄ =>
              wpAny (model Y.prog Y.w) Y.A (call (.builtin "list.append") [.ref D, x]) (fun _ s₅ => ∃ m, m < n ∧ I' m s₅) (notedBy (model Y.prog Y.w) Y.A Y.env fun e s' => RR (.error e) s') s₄) (notedBy (model Y.prog Y.w) Y.A Y.env fun e s' => RR (.error e) s') s₃
            else ∃ m, m < n ∧ I' m s₃) (notedBy (model Y.prog Y.w) Y.A Y.env fun e s' => RR (.error e) s') s₂) (notedBy (model Y.prog Y.w) Y.A Y.env fun e s' => RR (.error e) s') s₁') (notedBy (model Y.prog Y.w) Y.A Y.env fun e s' => RR (.error e) s') s₁) (notedBy (model Y.prog Y.w) Y.A Y.env fun e s' => RR (.error e) s') s) (n : Nat), I' n s4 → codeAny (model Y.prog Y.w) Y.A c RR s4)
    (W : Wk Y.prog Y.w Y.A tg I fp wr ds.length Yp st) (S4 : Ste B Y [] O N σ s4) (st0 : st 0 s4.heap) (gD : s4.heap.get? D = some { cls := .type "list", data := .seq its0.toArray ep0 }) (d0 : DVs B O s4.heap s4.toks its0 dn0) (hDO : O D) (hDf : FpOk Y [] Y.H_0 D)
    (hwr : ∀ b ∈ wr, O b ∧ FpOk Y [] Y.H_0 b ∧ b ≠ D) (hO : ∀ c, Zx Y c → O c) (hDZ : ¬ Zx Y D) (hfp : ∀ b ∈ fp, ¬ Zx Y b ∧ b ∉ Y.env.locals :: Y.fs ∧ b ≠ D) (hw : ∀ x ∈ ts, Wrt Y x ∧ x ∈ N) (t : Tg tg ts)
    (hput : ∀ own : List Sl, own.length = ts.length → putS N σ ts own = g own) (hfg : ∀ own : List Sl, own.length = ts.length → ∀ (j : Nat) dd, σ[j]? = some (.dat dd) → (g own)[j]? = some (.dat dd)) (hlen : (dn0 ++ l).length ≤ sizeLine)
    (hy : ∀ i v (s2 : Shared) d, ds[i]? = some d → (∀ b o, ¬ O b → s4.heap.get? b = some o → s2.heap.get? b = some o) → s4.toks ≤ s2.toks → Yp i v s2.heap s2.toks → IT B O ts.length v d s2)
    (ht : STs B Y N F ifs xi) (he : SE B Y N F elt x) (er : filtR (lcF F g ts.length xi x) ds = .ok l)
    (hR : ∀ s5 s6 its ep, Ste B Y [] O N σ s5 → Lz Y (fun b => b ∈ wr ∨ b = D ∨ Zx Y b) s4 s5 → Inv Y [] [] Y.H_0 s6 → (∀ b o, b ∉ wr → s5.heap.get? b = some o → s6.heap.get? b = some o) → s5.toks ≤ s6.toks → s6.heap.get? D = some { cls := .type "list", data := .seq (List.toArray its) ep } → DVs B O s6.heap s6.toks its (dn0 ++ l) → RR (.ok .next) s6) :
    codeAny (model Y.prog Y.w) Y.A c RR s4 := by
  have frO : ∀ b ∈ Y.env.locals :: Y.fs, O b := S4.fr
  have hDn : D ∉ Y.env.locals :: Y.fs := fun z => by
    rcases List.mem_cons.mp z with q | q
    · exact hDf.2.1 q
    · exact hDf.2.2.1 q
  refine rule (fun n s5 => ∃ i its ep dn r, n = ds.length - i ∧ i ≤ ds.length ∧ Ste B Y [] O N σ s5 ∧ st i s5.heap ∧ s5.heap.get? D = some { cls := .type "list", data := .seq (List.toArray its) ep } ∧ DVs B O s5.heap s5.toks its dn ∧
    filtR (lcF F g ts.length xi x) (ds.drop i) = .ok r ∧ dn ++ r = dn0 ++ l ∧ Lz Y (fun b => b ∈ wr ∨ b = D ∨ Zx Y b) s4 s5) ?_ ds.length ⟨0, its0, ep0, dn0, l, by simp, Nat.zero_le _, S4, st0, gD, d0, by simpa using er, rfl, Lz.refl⟩
  rintro n s5 ⟨i, its, ep, dn, r, hn, hil, S5, st5, g5, d5, er5, el, lz5⟩
  by_cases hlt : i < ds.length
  · -- a turn
    have hd : ds[i]? = some ds[i] := List.getElem?_eq_getElem hlt
    rw [List.drop_eq_getElem_cons hlt] at er5
    obtain ⟨o, r', hf, er6, hr⟩ := filtR_ok er5
    obtain ⟨own, hb, hf⟩ := R.bind_ok (r := bindT ts.length ds[i]) hf
    obtain ⟨tt, htt, hf⟩ := R.bind_ok (r := evIf F (g own) xi) hf
    have hput := hput own (bindT_len hb)
    have key := walk_turn (E := notedBy (model Y.prog Y.w) Y.A Y.env fun e s' => RR (.error e) s') (Q := fun s6 => Ste B Y [] O N (putS N σ ts own) s6 ∧ st (i + 1) s6.heap ∧ Lz Y (fun b => b ∈ wr ∨ Zx Y b) s5 s6) hc W S5 st5 hlt t hw hO (fun b hb => ⟨(hwr b hb).1, (hwr b hb).2.1⟩) (fun b hb => ⟨(hfp b hb).1, (hfp b hb).2.1⟩)
      (fun v s2 kp q hyp => hy i v s2 ds[i] hd (fun b o no e => kp b o no (lz5.kpt frO (fun b z => by
        rcases z with z | z | z
        · exact (hwr b z).1
        · rw [z]; exact hDO
        · exact hO b z) b o no e)) (Nat.le_trans lz5.2 q) hyp) hb fun s6 a b c _ => ⟨a, b, c⟩
    refine thn key fun rr s' ⟨v, hv, h⟩ => ?_
    subst hv
    refine thn h fun _ s1' h1 => thn h1 fun _ s6 ⟨S6, st6, l6⟩ => ?_
    rw [hput] at S6
    refine wm_no hx ((ht [] O (g own) s6 S6).ok htt) fun tb s7 ⟨I7, l7, eb⟩ => ?_
    subst eb
    have S7 := S6.step I7 l7
    have nwr : D ∉ wr := fun z => (hwr D z).2.2 rfl
    have g7 : s7.heap.get? D = some { cls := .type "list", data := .seq (List.toArray its) ep } := (l7.1 D _ ((l6.1 D _ g5 fun z => z.elim nwr hDZ).1 hDn)).1 hDn
    have d7 : DVs B O s7.heap s7.toks its dn := l7.dats frO (d5.mono (fun b o no e => l6.kpt frO (fun b z => z.elim (fun z => (hwr b z).1) (hO b)) b o no e) l6.2 fun _ z => z)
    have lz7 : Lz Y (fun b => b ∈ wr ∨ b = D ∨ Zx Y b) s4 s7 := lz5.trans ((l6.mono fun b z => z.elim .inl fun z => .inr (.inr z)).trans (Le.lz l7))
    have st7 : st (i + 1) s7.heap := W.frame _ _ _ st6 fun b hb o e => (l7.1 b o e).1 (hfp b hb).2.1
    have fg := hfg own (bindT_len hb)
    cases tb with
    | false =>
      cases hf
      rw [if_neg Bool.false_ne_true]
      exact ⟨ds.length - (i + 1), by omega, i + 1, its, ep, dn, r', rfl, hlt, S7.forget fg, st7, g7, d7, er6, by rw [hr] at el; exact el, lz7⟩
    | true =>
      obtain ⟨y, hf1, hf⟩ := R.bind_ok (r := ev F (g own) x) hf
      cases hf
      rw [if_pos rfl]
      refine wm_no hx ((he [] O (g own) s7 S7).ok hf1) fun u s8 ⟨I8, l8, du⟩ => ?_
      have S8 := S7.step I8 l8
      have g8 := (l8.1 D _ g7).1 hDn
      have hln : its.length ≤ sizeLine := by
        have h1 := d5.length
        have h2 := congrArg List.length el
        rw [List.length_append] at h2
        omega
      refine append_at (hsz := by rw [List.size_toArray]; exact hln) g8 fun h' sb ho' => ?_
      have k9 : ∀ b o, b ∉ [D] → s8.heap.get? b = some o → h'.get? b = some o := fun b o hb e => (sb.2 b fun z => hb (by simp [z])).trans e
      have S9 : Ste B Y [] O N (g own) { s8 with heap := h', toks := s8.toks } := S8.turns (ch := [D]) (fun b hb => by rw [List.mem_singleton.mp hb]; exact hDf) (fun b hb => by rw [List.mem_singleton.mp hb]; exact hDO) k9 (fun b hb => by rw [List.mem_singleton.mp hb]; exact ⟨_, ho'⟩) (Nat.le_refl _)
      have lz9 : Lz Y (fun b => b ∈ wr ∨ b = D ∨ Zx Y b) s8 { s8 with heap := h', toks := s8.toks } := Lz.turns k9 (fun b hb => .inr (.inl (List.mem_singleton.mp hb))) (Nat.le_refl _)
      refine ⟨ds.length - (i + 1), by omega, i + 1, its ++ [u], ep + 1, dn ++ [y], r', rfl, hlt, S9.forget fg, W.frame _ _ _ st7 fun b hb o e => k9 b o (by simpa using (hfp b hb).2.2) ((l8.1 b o e).1 (hfp b hb).2.1), by rw [ho']; simp, ?_, er6, by rw [hr] at el; simpa using el, lz7.trans ((Le.lz l8).trans lz9)⟩
      exact ((l8.dats frO d7).append (.cons du .nil)).mono (fun b o no e => k9 b o (fun z => no (by rw [List.mem_singleton.mp z]; exact hDO)) e) (Nat.le_refl _) fun _ z => z
  · -- the end
    have ei : i = ds.length := by omega
    subst ei
    rw [List.drop_length] at er5
    cases er5
    rw [List.append_nil] at el
    subst el
    refine thn (walk_stop (Q := fun s6 => RR (.ok .next) s6) W S5.inv st5 (fun b hb => (hwr b hb).2.1) fun s6 I6 k6 q6 => ?_) fun rr s' ⟨hv, h⟩ => by
      subst hv
      exact h
    have nwr : D ∉ wr := fun z => (hwr D z).2.2 rfl
    exact hR s5 s6 its ep S5 lz5 I6 k6 q6 (k6 D _ nwr g5) (d5.mono (fun b o no e => k6 b o (fun z => no (hwr b z).1) e) q6 fun _ z => z)
theorem fg_app {ts : List Str} {own : List Sl} (hol : own.length = ts.length) : ∀ (j : Nat) dd, (List.replicate ts.length Sl.un ++ ρ)[j]? = some (.dat dd) → (own ++ ρ)[j]? = some (.dat dd) := fun j dd e => by
  by_cases hj : j < ts.length
  · rw [List.getElem?_append_left (by simpa using hj), List.getElem?_replicate_of_lt hj] at e
    cases e
  · have hj : ts.length ≤ j := Nat.le_of_not_lt hj
    rw [List.getElem?_append_right (by simpa using hj)] at e
    rw [List.getElem?_append_right (by rw [hol]; exact hj)]
    simpa [hol] using e
theorem filtR_len {f : D → R (Option D)} : ∀ {ds r : List D}, filtR f ds = .ok r → r.length ≤ ds.length
  | [], r, h => by
    cases h
    exact Nat.le_refl _
  | d :: ds, r, h => by
    obtain ⟨o, r', _, h2, hr⟩ := filtR_ok h
    have := filtR_len h2
    cases o with
    | none => rw [hr]; simp; omega
    | some x => rw [hr]; simp; omega
theorem lc_core {use : Option (Value → Sem Unit)} {Qf : List D → Value → Shared → Prop} {elt iter : Expr} {ifs : List Expr} {scope : Scope} {pos' : Pos} {ts : List Str} {it : Ev.It} {xi : Option Ev.X} {x : Ev.X} (hc : X.calm = true) (S : Ste B X pins O N ρ s) (hi : SI B X N F ts.length tg iter it) (t : Tg tg ts) (hnd : ts.Nodup) (ok : BlkS N X.env.scope scope ts)
    (ht : ∀ s3 ex, STs B (bCx scope X s3 ex) (ts ++ N) F ifs xi) (he : ∀ s3 ex, SE B (bCx scope X s3 ex) (ts ++ N) F elt x) (hs : ∀ x, foldedSetIterable iter X.env x = pure x)
    (hR : ∀ l D C s', Pc B X pins O s (.list l) D C s' → compPost (model X.prog X.w) X.A X.xe use (Qf l) (.ref D) C (.ok .next) s') :
    Gw B X (fun Q => wpAny (model X.prog X.w) X.A (comprehension (.ListComp elt [⟨tg, iter, ifs, 0⟩] scope pos) scope X.env pos' (newList []) false (eval iter X.env) use) Q X.xe s) ((evIt F ρ it).bind fun ds => (filtR (lcF F (· ++ ρ) ts.length xi x) ds).calm) Qf := by
  have hfree : ∀ y ∈ scope.names, y.2 = .free → ∃ c, X.env.cells.lookup y.1 = some c := fun y hy e => by
    rcases ok.free y hy e with k | k
    · exact S.inv.ok.has _ (.inl k)
    · exact S.inv.ok.has _ (.inr k)
  refine Gw.bind (W1 := fun Q => wpAny (model X.prog X.w) X.A (eval iter X.env) (fun v s1 => wpAny (model X.prog X.w) X.A (pyIter v) Q X.xe s1) X.xe s)
    (K := fun itv s2 Q => wpAny (model X.prog X.w) X.A (newList []) (fun acc s3 => wpAny (model X.prog X.w) X.A (newFunctionEnv scope X.env.globals (cloFrom X.env.cells scope.names []) [] X.env.qual none .none (some X.env)) (fun cenv s4 =>
      codeAny (model X.prog X.w) X.A (.compStart (.ListComp elt [⟨tg, iter, ifs, 0⟩] scope pos) 0 itv acc { cenv with scope := relabel scope X.env }) (compPost (model X.prog X.w) X.A X.xe use Q acc cenv.locals) s4) X.xe s3) X.xe s2)
    (fun Q Q' m w => thn w fun v s w' => thn w' m) (fun Q hq => wpAny_comprehension_free (use := use) rfl hs (closure_ok hfree) ok.kind (fun y hy e => by rw [ok.uniq y hy, e]) hq) (hi pins O ρ s S) fun ds itv s2 _ p => ?_
  cases er : (filtR (lcF F (· ++ ρ) ts.length xi x) ds).calm with
  | stuck => trivial
  | err c => exact absurd er R.calm_err
  | ok l =>
    replace er := R.calm_ok er
    show wpAny _ _ _ _ _ _
    obtain ⟨it, fp, wr, Yp, st, e, I2, l2, T⟩ := p
    subst e
    refine wpAny_newObj_type (newEnv_comp ?_) (by show 0 ≤ sizeLine; decide)
    have hwr : ∀ b ∈ wr, FpOk X pins X.H_0 b ∧ s.heap.get? b = none ∧ ∃ o, s2.heap.get? b = some o := fun b hb => ⟨T.fpk b hb, T.new b hb, (T.fps b (T.wk.sub b hb)).2⟩
    obtain ⟨I3, hex, hz, S4⟩ := blk_ste (o := { cls := .type "list", data := .seq ([] : List Value).toArray }) S I2 l2 ok rfl hwr
    have ht' := ht (nSt s2 { cls := .type "list", data := .seq ([] : List Value).toArray }) (s2.heap.objs.size :: wr)
    have he' := he (nSt s2 { cls := .type "list", data := .seq ([] : List Value).toArray }) (s2.heap.objs.size :: wr)
    have gD : (bSt scope (nSt s2 { cls := .type "list", data := .seq ([] : List Value).toArray })).heap.get? s2.heap.objs.size = some { cls := .type "list", data := .seq ([] : List Value).toArray } := bSt_kept _ _ (Heap.get?_push_size _ rfl)
    have k4 : ∀ b o, s2.heap.get? b = some o → (bSt scope (nSt s2 { cls := .type "list", data := .seq ([] : List Value).toArray })).heap.get? b = some o := fun b o e => bSt_kept _ _ (Heap.get?_push_of_some _ e)
    show codeAny _ _ (.compStart (.ListComp elt [⟨tg, iter, ifs, 0⟩] scope pos) 0 (.ref it) (.ref s2.heap.objs.size) (bEnv scope X (nSt s2 { cls := .type "list", data := .seq ([] : List Value).toArray }).heap.objs.size)) (compPost (model X.prog X.w) X.A X.xe use (Qf l) (.ref s2.heap.objs.size) (nSt s2 { cls := .type "list", data := .seq ([] : List Value).toArray }).heap.objs.size) (bSt scope (nSt s2 { cls := .type "list", data := .seq ([] : List Value).toArray }))
    have st4 : st 0 (bSt scope (nSt s2 { cls := .type "list", data := .seq ([] : List Value).toArray })).heap := T.wk.frame _ _ _ T.st fun b hb o e => k4 b o e
    have fpY : ∀ b ∈ s2.heap.objs.size :: wr, FpOk (bCx scope X (nSt s2 { cls := .type "list", data := .seq ([] : List Value).toArray }) (s2.heap.objs.size :: wr)) [] X.H_0 b := fun b hb =>
      ⟨(hex b hb).1, (S4.inv.ok.exf b hb).1, S4.inv.ok.exfs b hb, .inl hb, fun x c e => (S4.inv.ok.exf b hb).2 x c e, fun p hp => absurd (show p ∈ ([] : List (Addr × Obj)) ++ [] from hp) (by simp)⟩
    have ltw : ∀ b ∈ fp, b < s2.heap.objs.size := fun b hb => by
      obtain ⟨_, o, e⟩ := T.fps b hb
      exact Heap.lt_size e
    have loop := lc_loop (Y := bCx scope X (nSt s2 { cls := .type "list", data := .seq ([] : List Value).toArray }) (s2.heap.objs.size :: wr)) (dn0 := []) (its0 := []) (ep0 := 0) (g := (· ++ ρ)) (c := .compLoop (.ListComp elt [⟨tg, iter, ifs, 0⟩] scope pos) 0 (.ref it) (.ref s2.heap.objs.size) (bEnv scope X (nSt s2 { cls := .type "list", data := .seq ([] : List Value).toArray }).heap.objs.size))
      (RR := compPost (model X.prog X.w) X.A X.xe use (Qf l) (.ref s2.heap.objs.size) (nSt s2 { cls := .type "list", data := .seq ([] : List Value).toArray }).heap.objs.size) hc rfl (fun I' turn n h => compLoop_any I' turn n h) T.wk S4 st4 gD .nil (.inr (.inr (.inl rfl))) (fpY _ List.mem_cons_self)
      (fun b hb => ⟨.inr (.inl hb), fpY b (List.mem_cons_of_mem _ hb), Nat.ne_of_lt (ltw b (T.wk.sub b hb))⟩) (fun c z => .inr (.inr (.inr z))) (fun z => Nat.lt_irrefl _ (hz _ z))
      (fun b hb => ⟨fun z => absurd (Nat.lt_trans (ltw b hb) (hz b z)) (Nat.lt_irrefl _), fun z => ?_, Nat.ne_of_lt (ltw b hb)⟩) (fun y hy => ⟨?_, List.mem_append_left _ hy⟩) t (fun own ho => putS_app (M := []) (μ := []) hnd (by simp) rfl (by simp) ho) (fun own ho => fg_app ho) (by rw [List.nil_append]; exact Nat.le_trans (filtR_len er) T.len) (fun i v s5 d hd kp q yy => T.yld _ (fun b z => ?_) i v s5 d hd (fun b o e no => kp b o no (k4 b o e)) q yy) ht' he' er ?_
    · exact codeAny_compStart_list loop (T.wk.self 0 _ _ _ st4 loop)
    · rcases List.mem_cons.mp z with q | q
      · have lt := ltw b hb
        have q : b = (nSt s2 { cls := .type "list", data := .seq ([] : List Value).toArray }).heap.objs.size := q
        have cs : (nSt s2 { cls := .type "list", data := .seq ([] : List Value).toArray }).heap.objs.size = s2.heap.objs.size + 1 := Heap.size_push ..
        rw [q, cs] at lt
        exact absurd (Nat.lt_trans (Nat.lt_succ_self _) lt) (Nat.lt_irrefl _)
      · exact (T.fps b hb).1 (S.fr b (I3.stkSub b q))
    · rcases ok.wrt y hy with k | k
      · exact .inl (lookup_relS_keep (by simp) k)
      · exact .inr ⟨lookup_relS_keep (by simp) k, by show (scope.names.lookup y == some .cell) = true; rw [k]; rfl⟩
    · rcases z with z | z | z | z
      · exact .inl z
      · exact .inr (.inl z)
      · exact .inr (.inr (push_none (Nat.le_of_eq z.symm)))
      · exact .inr (.inr (push_none (Nat.le_of_lt (hz b z))))
    · intro s5 s6 its ep S5 lz5 I6 k6 q6 g5 d5
      have zl : its.length ≤ sizeLine := by rw [d5.length]; exact Nat.le_trans (filtR_len er) T.len
      obtain ⟨J1, J2, J3, J4, J5⟩ := blk_exit S l2 I3 hex T.new hz I6 (lz5.trans (Lz.of_kept k6 (fun b z => .inl z) q6))
      refine hR l _ _ s6 ⟨J1, J2, .list (fun z => ?_) g5 zl (d5.mono (fun b o no e => e) (Nat.le_refl _) fun b z => ?_), J3, J4, J5⟩
      · rcases z with z | z
        · obtain ⟨o, e⟩ := S.dom _ z
          obtain ⟨sl, e⟩ := (l2.1 _ o e).2
          exact Nat.lt_irrefl _ (Heap.lt_size e)
        · have cs : (nSt s2 { cls := .type "list", data := .seq ([] : List Value).toArray }).heap.objs.size = s2.heap.objs.size + 1 := Heap.size_push ..
          rw [cs] at z
          exact Nat.succ_ne_self _ z.symm
      · rcases z with z | z
        · exact .inl z
        · exact .inr (.inr (.inr (.inl z)))
end
end Ev
namespace Ev
open PySem PySem.Spec PyProof.Rows L2
theorem flatR_ok {f : D → R (List D)} {d : D} {ds r : List D} (h : flatR f (d :: ds) = .ok r) : ∃ o r', f d = .ok o ∧ flatR f ds = .ok r' ∧ r = o ++ r' := by
  obtain ⟨o, h1, h⟩ := R.bind_ok (r := f d) h
  obtain ⟨r', h2, h⟩ := R.bind_ok (r := flatR f ds) h
  cases h
  exact ⟨o, r', h1, h2, rfl⟩
def lcF2 (F : Fx) (ρ : List Sl) (n n2 : Nat) (xi : Option Ev.X) (it2 : Ev.It) (xi2 : Option Ev.X) (x : Ev.X) : D → R (List D) := fun d => (bindT n d).bind fun own =>
  (evIf F (own ++ (List.replicate n2 .un ++ ρ)) xi).bind fun t => match t with
  | true => (evIt F (own ++ (List.replicate n2 .un ++ ρ)) it2).bind fun ds2 => filtR (lcF F (fun own2 => own ++ (own2 ++ ρ)) n2 xi2 x) ds2
  | false => .ok []
section
variable {B : Bk} {X Y : Cx} {N M : List Str} {F : Fx} {pins : List (Addr × Obj)} {O O' Z : Addr → Prop} {ρ σ : List Sl} {s s1 s2 s3 s' : Shared} {pos p2 : Pos} {tg e : Expr} {n : Nat} {h' : Heap}
theorem Gw.map {α β γ : Type} {W : (γ → Shared → Prop) → Prop} {r : R α} {f : α → β} {Q : β → γ → Shared → Prop} (h : Gw B X W r fun a => Q (f a)) : Gw B X W (r.bind fun a => .ok (f a)) Q := by
  cases r with
  | ok a => exact h
  | err c => exact h
  | stuck => trivial
/-- the block's frame goes -/
theorem Pc.pst {d : D} {D C : Addr} (p : Pc B X pins O s d D C s') : compPost (model X.prog X.w) X.A X.xe none (Pst B X pins O s d) (.ref D) C (.ok .next) s' := by
  obtain ⟨I, l, hd, f, ⟨m, hn⟩, hC⟩ := p
  refine ⟨m, hn, fun h'' sb => ⟨Inv.turns (ch := [C]) (t' := s'.toks) I (fun b hb => by rw [List.mem_singleton.mp hb]; exact f) fun b o hb e => (sb.2 b fun z => hb (by simp [z])).trans e, ⟨fun b o e => ?_, l.2⟩, ?_⟩⟩
  · have ne : b ≠ C := fun z => by rw [z, hC] at e; cases e
    obtain ⟨h1, sl, h2⟩ := l.1 b o e
    exact ⟨fun hb => (sb.2 b ne).trans (h1 hb), sl, (sb.2 b ne).trans h2⟩
  · exact hd.mono (fun b o no e => (sb.2 b fun z => no (.inr z)).trans e) (Nat.le_refl _) fun b z => .inl z
theorem se_lc {elt iter : Expr} {ifs : List Expr} {scope : Scope} {ts : List Str} {it : Ev.It} {xi : Option Ev.X} {x : Ev.X} {k : Nat} (hk : k = ts.length) (hc : X.calm = true) (hi : SI B X N F ts.length tg iter it) (t : Tg tg ts) (hnd : ts.Nodup) (ok : BlkS N X.env.scope scope ts)
    (ht : ∀ s3 ex, STs B (bCx scope X s3 ex) (ts ++ N) F ifs xi) (he : ∀ s3 ex, SE B (bCx scope X s3 ex) (ts ++ N) F elt x) (hs : ∀ x, foldedSetIterable iter X.env x = pure x) :
    SE B X N F (.ListComp elt [⟨tg, iter, ifs, 0⟩] scope pos) (.lc x (.mk k it xi)) := by
  intro pins O ρ s S
  subst hk
  show Gw B X (Wm X (eval (.ListComp elt [⟨tg, iter, ifs, 0⟩] scope pos) X.env) s) ((evIt F ρ it).bind fun ds => (filtR (lcF F (· ++ ρ) ts.length xi x) ds).calm.bind fun l => .ok (D.list l)) _
  rw [eval_ListComp, ← bind_assoc]
  exact Gw.map (lc_core hc S hi t hnd ok ht he hs fun l D C s' p => p.pst)
theorem Ste.grown {wr : List Addr} (S : Ste B X pins O N ρ s) (I : Inv X pins [] X.H_0 s1) (l : Le X s s1) (hn : ∀ b ∈ wr, s.heap.get? b = none) (hl : ∀ b ∈ wr, ∃ o, s1.heap.get? b = some o) : Ste B X pins (fun b => O b ∨ b ∈ wr) N ρ s1 := by
  refine ⟨I, Nat.le_trans S.tk l.2, fun b hb => .inl (S.fr b hb), fun b hb => ?_, ?_⟩
  · rcases hb with hb | hb
    · obtain ⟨o, e⟩ := S.dom b hb
      obtain ⟨sl, q⟩ := (l.1 b o e).2
      exact ⟨_, q⟩
    · exact hl b hb
  · obtain ⟨m, hm, he⟩ := S.env
    refine ⟨m, l.ns hm, fun x d n e v => ?_⟩
    obtain ⟨u, hu, hd⟩ := he x d n e v
    refine ⟨u, l.look hu, (hd.grow (O' := fun b => O b ∨ b ∈ wr) fun b z => z.imp id (hn b)).mono (fun b o no e => (l.1 b o e).1 fun z => no (.inl (S.fr b z))) l.2 fun _ z => z⟩
/-- an iterator's own objects are let go -/
theorem Ste.stop {wr : List Addr} (S : Ste B X pins (fun b => O b ∨ b ∈ wr) N ρ s) (fr : ∀ b ∈ X.env.locals :: X.fs, O b) (I : Inv X pins [] X.H_0 s1) (hw : ∀ b ∈ wr, ¬ O b) (hf : ∀ b ∈ wr, FpOk X pins X.H_0 b) (k : ∀ b o, b ∉ wr → s.heap.get? b = some o → s1.heap.get? b = some o) (q : s.toks ≤ s1.toks) : Ste B X pins O N ρ s1 := by
  obtain ⟨m, ⟨o, es, ep, ho, r⟩, he⟩ := S.env
  refine ⟨I, Nat.le_trans S.tk q, fr, fun b hb => ?_, m, ⟨o, es, ep, k _ o (fun z => (hf _ z).2.1 rfl) ho, r⟩, fun x d n e v => ?_⟩
  · obtain ⟨o, e⟩ := S.dom b (.inl hb)
    exact ⟨o, k b o (fun z => hw b z hb) e⟩
  · obtain ⟨u, hu, hd⟩ := he x d n e v
    refine ⟨u, ?_, hd.mono (fun b o no e => k b o (fun z => no (.inr z)) e) q fun b z => .inl z⟩
    rcases hu with z | ⟨kk, c, ec, oc, eo, ed⟩
    · exact .inl z
    · exact .inr ⟨kk, c, ec, oc, k c oc (fun z => (hf c z).2.2.2.2.1 x c ec rfl) eo, ed⟩
/-- what was new is gone from the account -/
theorem Lz.inner {wr : List Addr} (a : Lz X Z s s1) (b : Lz X (fun c => c ∈ wr ∨ Z c) s1 s2) (h : ∀ c ∈ wr, s1.heap.get? c = none) : Lz X Z s s2 := ⟨fun c o e n => by
  obtain ⟨sl, q⟩ := (a.1 c o e n).2
  have nw : ¬ (c ∈ wr ∨ Z c) := by
    rintro (z | z)
    · rw [h c z] at q; cases q
    · exact n z
  refine ⟨fun hc => (b.1 c o ((a.1 c o e n).1 hc) nw).1 hc, ?_⟩
  obtain ⟨sl', q'⟩ := (b.1 c _ q nw).2
  exact ⟨sl', q'⟩, Nat.le_trans a.2 b.2⟩
theorem put_in {ts ts2 : List Str} {own own2 : List Sl} (hnd : (ts ++ ts2).Nodup) (h1 : own.length = ts.length) (h2 : own2.length = ts2.length) : putS (ts ++ (ts2 ++ N)) (own ++ (List.replicate ts2.length .un ++ ρ)) ts2 own2 = own ++ (own2 ++ ρ) :=
  putS_app (List.nodup_append.mp hnd).2.1 (fun x hx hx' => (List.nodup_append.mp hnd).2.2 x hx' x hx rfl) h1 (by simp) h2
theorem fg_in {ts2 : List Str} {own own2 : List Sl} (h2 : own2.length = ts2.length) : ∀ (j : Nat) dd, (own ++ (List.replicate ts2.length Sl.un ++ ρ))[j]? = some (.dat dd) → (own ++ (own2 ++ ρ))[j]? = some (.dat dd) := fun j dd e => by
  by_cases hj : j < own.length
  · rw [List.getElem?_append_left hj] at e ⊢
    exact e
  · have hj : own.length ≤ j := Nat.le_of_not_lt hj
    rw [List.getElem?_append_right hj] at e ⊢
    exact fg_app h2 _ dd e
theorem lc2_loop {elt iter tg2 iter2 : Expr} {ifs ifs2 : List Expr} {scope : Scope} {ts ts2 : List Str} {it2 : Ev.It} {xi xi2 : Option Ev.X} {x : Ev.X} {I D : Addr} {fp wr : List Addr} {ds l : List Ev.D} {Yp : Nat → Value → Heap → Nat → Prop} {st : Nat → Heap → Prop} {s4 : Shared} {RR : Result → Shared → Prop} (hc : Y.calm = true) (hx : Y.xe = fun _ _ => False)
    (W : Wk Y.prog Y.w Y.A tg I fp wr ds.length Yp st) (S4 : Ste B Y [] O (ts ++ (ts2 ++ N)) (List.replicate ts.length .un ++ (List.replicate ts2.length .un ++ ρ)) s4) (st0 : st 0 s4.heap) (gD : s4.heap.get? D = some { cls := .type "list", data := .seq ([] : List Value).toArray }) (hDO : O D) (hDf : FpOk Y [] Y.H_0 D)
    (hwr : ∀ b ∈ wr, O b ∧ FpOk Y [] Y.H_0 b ∧ b ≠ D) (hO : ∀ c, Zx Y c → O c) (hDZ : ¬ Zx Y D) (hfp : ∀ b ∈ fp, ¬ Zx Y b ∧ b ∉ Y.env.locals :: Y.fs ∧ b ≠ D) (hfl : ∀ b ∈ fp, ∃ o, s4.heap.get? b = some o) (hw : ∀ x ∈ ts ++ ts2, Wrt Y x) (t : Tg tg ts) (t2 : Tg tg2 ts2) (hnd : (ts ++ ts2).Nodup) (hlen : l.length ≤ sizeLine)
    (hy : ∀ i v (s2 : Shared) d, ds[i]? = some d → (∀ b o, ¬ O b → s4.heap.get? b = some o → s2.heap.get? b = some o) → s4.toks ≤ s2.toks → Yp i v s2.heap s2.toks → IT B O ts.length v d s2)
    (ht : STs B Y (ts ++ (ts2 ++ N)) F ifs xi) (hi2 : SI B Y (ts ++ (ts2 ++ N)) F ts2.length tg2 iter2 it2) (ht2 : STs B Y (ts ++ (ts2 ++ N)) F ifs2 xi2) (he : SE B Y (ts ++ (ts2 ++ N)) F elt x) (hs2 : ∀ env x, foldedSetIterable iter2 env x = pure x) (er : flatR (lcF2 F ρ ts.length ts2.length xi it2 xi2 x) ds = .ok l)
    (hR : ∀ s5 s6 its ep, Ste B Y [] O (ts ++ (ts2 ++ N)) (List.replicate ts.length .un ++ (List.replicate ts2.length .un ++ ρ)) s5 → Lz Y (fun b => b ∈ wr ∨ b = D ∨ Zx Y b) s4 s5 → Inv Y [] [] Y.H_0 s6 → (∀ b o, b ∉ wr → s5.heap.get? b = some o → s6.heap.get? b = some o) → s5.toks ≤ s6.toks → s6.heap.get? D = some { cls := .type "list", data := .seq (List.toArray its) ep } → DVs B O s6.heap s6.toks its l → RR (.ok .next) s6) :
    codeAny (model Y.prog Y.w) Y.A (.compLoop (.ListComp elt [⟨tg, iter, ifs, 0⟩, ⟨tg2, iter2, ifs2, 0⟩] scope pos) 0 (.ref I) (.ref D) Y.env) RR s4 := by
  have frO : ∀ b ∈ Y.env.locals :: Y.fs, O b := S4.fr
  have hDn : D ∉ Y.env.locals :: Y.fs := fun z => by
    rcases List.mem_cons.mp z with q | q
    · exact hDf.2.1 q
    · exact hDf.2.2.1 q
  refine compLoop2_out (hs2 Y.env) (fun n s5 => ∃ i its ep dn r, n = ds.length - i ∧ i ≤ ds.length ∧ Ste B Y [] O (ts ++ (ts2 ++ N)) (List.replicate ts.length .un ++ (List.replicate ts2.length .un ++ ρ)) s5 ∧ st i s5.heap ∧ s5.heap.get? D = some { cls := .type "list", data := .seq (List.toArray its) ep } ∧ DVs B O s5.heap s5.toks its dn ∧
    flatR (lcF2 F ρ ts.length ts2.length xi it2 xi2 x) (ds.drop i) = .ok r ∧ dn ++ r = l ∧ (∀ b ∈ fp, ∃ o, s5.heap.get? b = some o) ∧ Lz Y (fun b => b ∈ wr ∨ b = D ∨ Zx Y b) s4 s5) ?_ ds.length ⟨0, [], 0, [], l, by simp, Nat.zero_le _, S4, st0, gD, .nil, by simpa using er, rfl, hfl, Lz.refl⟩
  rintro n s5 ⟨i, its, ep, dn, r, hn, hil, S5, st5, g5, d5, er5, el, fl5, lz5⟩
  by_cases hlt : i < ds.length
  · -- a turn
    have hd : ds[i]? = some ds[i] := List.getElem?_eq_getElem hlt
    rw [List.drop_eq_getElem_cons hlt] at er5
    obtain ⟨o, r', hf, er6, hr⟩ := flatR_ok er5
    obtain ⟨own, hb, hf⟩ := R.bind_ok (r := bindT ts.length ds[i]) hf
    obtain ⟨tt, htt, hf⟩ := R.bind_ok (r := evIf F (own ++ (List.replicate ts2.length .un ++ ρ)) xi) hf
    have hol := bindT_len hb
    have hput : putS (ts ++ (ts2 ++ N)) (List.replicate ts.length .un ++ (List.replicate ts2.length .un ++ ρ)) ts own = own ++ (List.replicate ts2.length .un ++ ρ) := putS_app (M := []) (μ := []) (List.nodup_append.mp hnd).1 (by simp) rfl (by simp) hol
    have key := walk_turn (E := notedBy (model Y.prog Y.w) Y.A Y.env fun e s' => RR (.error e) s') (Q := fun s6 => Ste B Y [] O (ts ++ (ts2 ++ N)) (putS (ts ++ (ts2 ++ N)) (List.replicate ts.length .un ++ (List.replicate ts2.length .un ++ ρ)) ts own) s6 ∧ st (i + 1) s6.heap ∧ Lz Y (fun b => b ∈ wr ∨ Zx Y b) s5 s6) hc W S5 st5 hlt t (fun y hy => ⟨hw y (List.mem_append_left _ hy), List.mem_append_left _ hy⟩) hO (fun b hb => ⟨(hwr b hb).1, (hwr b hb).2.1⟩) (fun b hb => ⟨(hfp b hb).1, (hfp b hb).2.1⟩)
      (fun v s2 kp q hyp => hy i v s2 ds[i] hd (fun b o no e => kp b o no (lz5.kpt frO (fun b z => by
        rcases z with z | z | z
        · exact (hwr b z).1
        · rw [z]; exact hDO
        · exact hO b z) b o no e)) (Nat.le_trans lz5.2 q) hyp) hb fun s6 a b c _ => ⟨a, b, c⟩
    refine thn key fun rr s' ⟨v, hv, h⟩ => ?_
    subst hv
    refine thn h fun _ s1' h1 => thn h1 fun _ s6 ⟨S6, st6, l6⟩ => ?_
    rw [hput] at S6
    refine wm_no hx ((ht [] O _ s6 S6).ok htt) fun tb s7 ⟨I7, l7, eb⟩ => ?_
    subst eb
    have S7 := S6.step I7 l7
    have nwr : D ∉ wr := fun z => (hwr D z).2.2 rfl
    have g7 : s7.heap.get? D = some { cls := .type "list", data := .seq (List.toArray its) ep } := (l7.1 D _ ((l6.1 D _ g5 fun z => z.elim nwr hDZ).1 hDn)).1 hDn
    have d7 : DVs B O s7.heap s7.toks its dn := l7.dats frO (d5.mono (fun b o no e => l6.kpt frO (fun b z => z.elim (fun z => (hwr b z).1) (hO b)) b o no e) l6.2 fun _ z => z)
    have lz7 : Lz Y (fun b => b ∈ wr ∨ b = D ∨ Zx Y b) s4 s7 := lz5.trans ((l6.mono fun b z => z.elim .inl fun z => .inr (.inr z)).trans (Le.lz l7))
    have st7 : st (i + 1) s7.heap := W.frame _ _ _ st6 fun b hb o e => (l7.1 b o e).1 (hfp b hb).2.1
    have fl7 : ∀ b ∈ fp, ∃ o, s7.heap.get? b = some o := fun b hb => by
      by_cases hbw : b ∈ wr
      · exact W.live _ _ st7 b hbw
      · obtain ⟨o, e⟩ := fl5 b hb
        exact ⟨o, (l7.1 b o ((l6.1 b o e fun z => z.elim hbw (hfp b hb).1).1 (hfp b hb).2.1)).1 (hfp b hb).2.1⟩
    have fg : ∀ (j : Nat) dd, (List.replicate ts.length Sl.un ++ (List.replicate ts2.length .un ++ ρ))[j]? = some (.dat dd) → (own ++ (List.replicate ts2.length .un ++ ρ))[j]? = some (.dat dd) := fg_app hol
    cases tb with
    | false =>
      cases hf
      rw [if_neg Bool.false_ne_true]
      exact ⟨ds.length - (i + 1), by omega, i + 1, its, ep, dn, r', rfl, hlt, S7.forget fg, st7, g7, d7, er6, by rw [hr] at el; exact el, fl7, lz7⟩
    | true =>
      obtain ⟨ds2, hf1, hf⟩ := R.bind_ok (r := evIt F (own ++ (List.replicate ts2.length .un ++ ρ)) it2) hf
      rw [if_pos rfl]
      have hit := (hi2 [] O _ s7 S7).ok hf1
      rw [hx] at hit
      refine thnF hit fun v s8 h8 => thnF h8 fun itv s9 ⟨I1, fp1, wr1, Yp1, st1, e1, I9, l9, T1⟩ => ?_
      subst e1
      have ex1 : ∀ b ∈ wr1, ∃ o, s9.heap.get? b = some o := fun b hb => (T1.fps b (T1.wk.sub b hb)).2
      have S9 := S7.grown I9 l9 T1.new ex1
      have nD1 : D ∉ wr1 := fun z => by
        have := T1.new D z
        rw [g7] at this
        cases this
      have d9 : DVs B (fun b => O b ∨ b ∈ wr1) s9.heap s9.toks its dn := (d7.grow (O' := fun b => O b ∨ b ∈ wr1) fun b z => z.imp id (T1.new b)).mono (fun b o no e => (l9.1 b o e).1 fun z => no (.inl (frO b z))) l9.2 fun _ z => z
      have fpo : ∀ b ∈ fp1, ¬ Zx Y b ∧ b ∉ Y.env.locals :: Y.fs ∧ b ≠ D := fun b hb => ⟨fun z => (T1.fps b hb).1 (hO b z), fun z => (T1.fps b hb).1 (frO b z), fun z => (T1.fps b hb).1 (by rw [z]; exact hDO)⟩
      have inner := lc_loop (Y := Y) (O := fun b => O b ∨ b ∈ wr1) (g := fun own2 => own ++ (own2 ++ ρ)) (c := .compLoop (.ListComp elt [⟨tg, iter, ifs, 0⟩, ⟨tg2, iter2, ifs2, 0⟩] scope pos) 1 (.ref I1) (.ref D) Y.env)
        (RR := fun r s' => match r with
          | .ok _ => ∃ m, m < n ∧ ∃ i its ep dn r, m = ds.length - i ∧ i ≤ ds.length ∧ Ste B Y [] O (ts ++ (ts2 ++ N)) (List.replicate ts.length .un ++ (List.replicate ts2.length .un ++ ρ)) s' ∧ st i s'.heap ∧ s'.heap.get? D = some { cls := .type "list", data := .seq (List.toArray its) ep } ∧ DVs B O s'.heap s'.toks its dn ∧ flatR (lcF2 F ρ ts.length ts2.length xi it2 xi2 x) (ds.drop i) = .ok r ∧ dn ++ r = l ∧ (∀ b ∈ fp, ∃ o, s'.heap.get? b = some o) ∧ Lz Y (fun b => b ∈ wr ∨ b = D ∨ Zx Y b) s4 s'
          | .error _ => False) hc hx (fun I' turn n h => compLoop2_in I' turn n h) T1.wk S9 T1.st ((l9.1 D _ g7).1 hDn) d9 (.inl hDO) hDf (fun b hb => ⟨.inr hb, T1.fpk b hb, fun z => nD1 (z ▸ hb)⟩) (fun c z => .inl (hO c z)) hDZ fpo (fun y hy => ⟨hw y (List.mem_append_right _ hy), List.mem_append_right _ (List.mem_append_left _ hy)⟩) t2
        (fun own2 h2 => put_in hnd hol h2) (fun own2 h2 => fg_in h2) (by rw [← el, hr] at hlen; simp at hlen ⊢; omega) (fun j v s2 d hd kp q yy => T1.yld _ (fun b z => z.imp id .inl) j v s2 d hd (fun b o e no => kp b o no e) q yy) ht2 he hf ?_
      · exact compStart1_ok inner (T1.wk.self 0 _ _ _ T1.st inner)
      · intro s10 s11 its' ep' S10 lz10 I11 k11 q11 g11 d11
        have lz11 : Lz Y (fun c => c ∈ wr1 ∨ c = D ∨ Zx Y c) s7 s11 := (Le.lz l9).trans (lz10.trans (Lz.of_kept k11 (fun b z => .inl z) q11))
        have kfp : ∀ b ∈ fp, ∀ o, s7.heap.get? b = some o → s11.heap.get? b = some o := fun b hb o e => by
          refine (lz11.1 b o e ?_).1 (hfp b hb).2.1
          rintro (z | z | z)
          · rw [T1.new b z] at e; cases e
          · exact (hfp b hb).2.2 z
          · exact (hfp b hb).1 z
        have S11 : Ste B Y [] O (ts ++ (ts2 ++ N)) (own ++ (List.replicate ts2.length .un ++ ρ)) s11 := S10.stop frO I11 (fun b hb => (T1.fps b (T1.wk.sub b hb)).1) T1.fpk k11 q11
        refine ⟨ds.length - (i + 1), by omega, i + 1, its', ep', dn ++ o, r', rfl, hlt, S11.forget fg, W.frame _ _ _ st7 kfp, g11, d11.mono (fun b o no e => e) (Nat.le_refl _) (fun b z => .inl z), er6, by rw [hr] at el; simpa using el, fun b hb => ?_, ?_⟩
        · obtain ⟨o, e⟩ := fl7 b hb
          exact ⟨o, kfp b hb o e⟩
        · exact Lz.inner lz7 (lz11.mono fun b z => z.imp id .inr) T1.new
  · -- the end
    have ei : i = ds.length := by omega
    subst ei
    rw [List.drop_length] at er5
    cases er5
    rw [List.append_nil] at el
    subst el
    refine thn (walk_stop (Q := fun s6 => RR (.ok .next) s6) W S5.inv st5 (fun b hb => (hwr b hb).2.1) fun s6 I6 k6 q6 => ?_) fun rr s' ⟨hv, h⟩ => by
      subst hv
      exact h
    have nwr : D ∉ wr := fun z => (hwr D z).2.2 rfl
    exact hR s5 s6 its ep S5 lz5 I6 k6 q6 (k6 D _ nwr g5) (d5.mono (fun b o no e => k6 b o (fun z => no (hwr b z).1) e) q6 fun _ z => z)
theorem lc2_core {use : Option (Value → Sem Unit)} {Qf : List D → Value → Shared → Prop} {elt iter tg2 iter2 : Expr} {ifs ifs2 : List Expr} {scope : Scope} {pos' : Pos} {ts ts2 : List Str} {it it2 : Ev.It} {xi xi2 : Option Ev.X} {x : Ev.X} (hc : X.calm = true) (S : Ste B X pins O N ρ s) (hi : SI B X N F ts.length tg iter it) (t : Tg tg ts) (t2 : Tg tg2 ts2) (hnd : (ts ++ ts2).Nodup) (ok : BlkS N X.env.scope scope (ts ++ ts2))
    (ht : ∀ s3 ex, STs B (bCx scope X s3 ex) (ts ++ (ts2 ++ N)) F ifs xi) (hi2 : ∀ s3 ex, SI B (bCx scope X s3 ex) (ts ++ (ts2 ++ N)) F ts2.length tg2 iter2 it2) (ht2 : ∀ s3 ex, STs B (bCx scope X s3 ex) (ts ++ (ts2 ++ N)) F ifs2 xi2) (he : ∀ s3 ex, SE B (bCx scope X s3 ex) (ts ++ (ts2 ++ N)) F elt x) (hs : ∀ x, foldedSetIterable iter X.env x = pure x) (hs2 : ∀ env x, foldedSetIterable iter2 env x = pure x)
    (hR : ∀ l D C s', Pc B X pins O s (.list l) D C s' → compPost (model X.prog X.w) X.A X.xe use (Qf l) (.ref D) C (.ok .next) s') :
    Gw B X (fun Q => wpAny (model X.prog X.w) X.A (comprehension (.ListComp elt [⟨tg, iter, ifs, 0⟩, ⟨tg2, iter2, ifs2, 0⟩] scope pos) scope X.env pos' (newList []) false (eval iter X.env) use) Q X.xe s) ((evIt F ρ it).bind fun ds => (flatR (lcF2 F ρ ts.length ts2.length xi it2 xi2 x) ds).calm.bind fun l => R.guard (fits l.length) (.ok l)) Qf := by
  have hfree : ∀ y ∈ scope.names, y.2 = .free → ∃ c, X.env.cells.lookup y.1 = some c := fun y hy e => by
    rcases ok.free y hy e with k | k
    · exact S.inv.ok.has _ (.inl k)
    · exact S.inv.ok.has _ (.inr k)
  refine Gw.bind (W1 := fun Q => wpAny (model X.prog X.w) X.A (eval iter X.env) (fun v s1 => wpAny (model X.prog X.w) X.A (pyIter v) Q X.xe s1) X.xe s)
    (K := fun itv s2 Q => wpAny (model X.prog X.w) X.A (newList []) (fun acc s3 => wpAny (model X.prog X.w) X.A (newFunctionEnv scope X.env.globals (cloFrom X.env.cells scope.names []) [] X.env.qual none .none (some X.env)) (fun cenv s4 =>
      codeAny (model X.prog X.w) X.A (.compStart (.ListComp elt [⟨tg, iter, ifs, 0⟩, ⟨tg2, iter2, ifs2, 0⟩] scope pos) 0 itv acc { cenv with scope := relabel scope X.env }) (compPost (model X.prog X.w) X.A X.xe use Q acc cenv.locals) s4) X.xe s3) X.xe s2)
    (fun Q Q' m w => thn w fun v s w' => thn w' m) (fun Q hq => wpAny_comprehension_free (use := use) rfl hs (closure_ok hfree) ok.kind (fun y hy e => by rw [ok.uniq y hy, e]) hq) (hi pins O ρ s S) fun ds itv s2 _ p => ?_
  cases er : (flatR (lcF2 F ρ ts.length ts2.length xi it2 xi2 x) ds).calm with
  | stuck => trivial
  | err c => exact absurd er R.calm_err
  | ok l =>
    refine Gw.guard fun hfit => ?_
    have zl := fits_line hfit
    replace er := R.calm_ok er
    show wpAny _ _ _ _ _ _
    obtain ⟨it, fp, wr, Yp, st, e, I2, l2, T⟩ := p
    subst e
    refine wpAny_newObj_type (newEnv_comp ?_) (by show 0 ≤ sizeLine; decide)
    have hwr : ∀ b ∈ wr, FpOk X pins X.H_0 b ∧ s.heap.get? b = none ∧ ∃ o, s2.heap.get? b = some o := fun b hb => ⟨T.fpk b hb, T.new b hb, (T.fps b (T.wk.sub b hb)).2⟩
    obtain ⟨I3, hex, hz, S4⟩ := blk_ste (o := { cls := .type "list", data := .seq ([] : List Value).toArray }) S I2 l2 ok rfl hwr
    rw [List.append_assoc, List.length_append, ← List.replicate_append_replicate, List.append_assoc] at S4
    have ht' := ht (nSt s2 { cls := .type "list", data := .seq ([] : List Value).toArray }) (s2.heap.objs.size :: wr)
    have hi2' := hi2 (nSt s2 { cls := .type "list", data := .seq ([] : List Value).toArray }) (s2.heap.objs.size :: wr)
    have ht2' := ht2 (nSt s2 { cls := .type "list", data := .seq ([] : List Value).toArray }) (s2.heap.objs.size :: wr)
    have he' := he (nSt s2 { cls := .type "list", data := .seq ([] : List Value).toArray }) (s2.heap.objs.size :: wr)
    have gD : (bSt scope (nSt s2 { cls := .type "list", data := .seq ([] : List Value).toArray })).heap.get? s2.heap.objs.size = some { cls := .type "list", data := .seq ([] : List Value).toArray } := bSt_kept _ _ (Heap.get?_push_size _ rfl)
    have k4 : ∀ b o, s2.heap.get? b = some o → (bSt scope (nSt s2 { cls := .type "list", data := .seq ([] : List Value).toArray })).heap.get? b = some o := fun b o e => bSt_kept _ _ (Heap.get?_push_of_some _ e)
    show codeAny _ _ (.compStart (.ListComp elt [⟨tg, iter, ifs, 0⟩, ⟨tg2, iter2, ifs2, 0⟩] scope pos) 0 (.ref it) (.ref s2.heap.objs.size) (bEnv scope X (nSt s2 { cls := .type "list", data := .seq ([] : List Value).toArray }).heap.objs.size)) (compPost (model X.prog X.w) X.A X.xe use (Qf l) (.ref s2.heap.objs.size) (nSt s2 { cls := .type "list", data := .seq ([] : List Value).toArray }).heap.objs.size) (bSt scope (nSt s2 { cls := .type "list", data := .seq ([] : List Value).toArray }))
    have st4 : st 0 (bSt scope (nSt s2 { cls := .type "list", data := .seq ([] : List Value).toArray })).heap := T.wk.frame _ _ _ T.st fun b hb o e => k4 b o e
    have fpY : ∀ b ∈ s2.heap.objs.size :: wr, FpOk (bCx scope X (nSt s2 { cls := .type "list", data := .seq ([] : List Value).toArray }) (s2.heap.objs.size :: wr)) [] X.H_0 b := fun b hb =>
      ⟨(hex b hb).1, (S4.inv.ok.exf b hb).1, S4.inv.ok.exfs b hb, .inl hb, fun x c e => (S4.inv.ok.exf b hb).2 x c e, fun p hp => absurd (show p ∈ ([] : List (Addr × Obj)) ++ [] from hp) (by simp)⟩
    have ltw : ∀ b ∈ fp, b < s2.heap.objs.size := fun b hb => by
      obtain ⟨_, o, e⟩ := T.fps b hb
      exact Heap.lt_size e
    have loop := lc2_loop (Y := bCx scope X (nSt s2 { cls := .type "list", data := .seq ([] : List Value).toArray }) (s2.heap.objs.size :: wr)) (pos := pos) (iter := iter) (scope := scope)
      (RR := compPost (model X.prog X.w) X.A X.xe use (Qf l) (.ref s2.heap.objs.size) (nSt s2 { cls := .type "list", data := .seq ([] : List Value).toArray }).heap.objs.size) hc rfl T.wk S4 st4 gD (.inr (.inr (.inl rfl))) (fpY _ List.mem_cons_self)
      (fun b hb => ⟨.inr (.inl hb), fpY b (List.mem_cons_of_mem _ hb), Nat.ne_of_lt (ltw b (T.wk.sub b hb))⟩) (fun c z => .inr (.inr (.inr z))) (fun z => Nat.lt_irrefl _ (hz _ z))
      (fun b hb => ⟨fun z => absurd (Nat.lt_trans (ltw b hb) (hz b z)) (Nat.lt_irrefl _), fun z => ?_, Nat.ne_of_lt (ltw b hb)⟩) (fun b hb => let ⟨_, o, e⟩ := T.fps b hb; ⟨o, k4 b o e⟩) (fun y hy => ?_) t t2 hnd zl (fun i v s5 d hd kp q yy => T.yld _ (fun b z => ?_) i v s5 d hd (fun b o e no => kp b o no (k4 b o e)) q yy) ht' hi2' ht2' he' hs2 er ?_
    · exact codeAny_compStart_list loop (T.wk.self 0 _ _ _ st4 loop)
    · rcases List.mem_cons.mp z with q | q
      · have lt := ltw b hb
        have q : b = (nSt s2 { cls := .type "list", data := .seq ([] : List Value).toArray }).heap.objs.size := q
        have cs : (nSt s2 { cls := .type "list", data := .seq ([] : List Value).toArray }).heap.objs.size = s2.heap.objs.size + 1 := Heap.size_push ..
        rw [q, cs] at lt
        exact absurd (Nat.lt_trans (Nat.lt_succ_self _) lt) (Nat.lt_irrefl _)
      · exact (T.fps b hb).1 (S.fr b (I3.stkSub b q))
    · rcases ok.wrt y hy with k | k
      · exact .inl (lookup_relS_keep (by simp) k)
      · exact .inr ⟨lookup_relS_keep (by simp) k, by show (scope.names.lookup y == some .cell) = true; rw [k]; rfl⟩
    · rcases z with z | z | z | z
      · exact .inl z
      · exact .inr (.inl z)
      · exact .inr (.inr (push_none (Nat.le_of_eq z.symm)))
      · exact .inr (.inr (push_none (Nat.le_of_lt (hz b z))))
    · intro s5 s6 its ep S5 lz5 I6 k6 q6 g5 d5
      obtain ⟨J1, J2, J3, J4, J5⟩ := blk_exit S l2 I3 hex T.new hz I6 (lz5.trans (Lz.of_kept k6 (fun b z => .inl z) q6))
      refine hR l _ _ s6 ⟨J1, J2, .list (fun z => ?_) g5 (by rw [d5.length]; exact zl) (d5.mono (fun b o no e => e) (Nat.le_refl _) fun b z => ?_), J3, J4, J5⟩
      · rcases z with z | z
        · obtain ⟨o, e⟩ := S.dom _ z
          obtain ⟨sl, e⟩ := (l2.1 _ o e).2
          exact Nat.lt_irrefl _ (Heap.lt_size e)
        · have cs : (nSt s2 { cls := .type "list", data := .seq ([] : List Value).toArray }).heap.objs.size = s2.heap.objs.size + 1 := Heap.size_push ..
          rw [cs] at z
          exact Nat.succ_ne_self _ z.symm
      · rcases z with z | z
        · exact .inl z
        · exact .inr (.inr (.inr (.inl z)))
theorem se_lc2 {elt iter tg2 iter2 : Expr} {ifs ifs2 : List Expr} {scope : Scope} {ts ts2 : List Str} {it it2 : Ev.It} {xi xi2 : Option Ev.X} {x : Ev.X} {k k2 : Nat} (hk : k = ts.length) (hk2 : k2 = ts2.length) (hc : X.calm = true) (hi : SI B X N F ts.length tg iter it) (t : Tg tg ts) (t2 : Tg tg2 ts2) (hnd : (ts ++ ts2).Nodup) (ok : BlkS N X.env.scope scope (ts ++ ts2))
    (ht : ∀ s3 ex, STs B (bCx scope X s3 ex) (ts ++ (ts2 ++ N)) F ifs xi) (hi2 : ∀ s3 ex, SI B (bCx scope X s3 ex) (ts ++ (ts2 ++ N)) F ts2.length tg2 iter2 it2) (ht2 : ∀ s3 ex, STs B (bCx scope X s3 ex) (ts ++ (ts2 ++ N)) F ifs2 xi2) (he : ∀ s3 ex, SE B (bCx scope X s3 ex) (ts ++ (ts2 ++ N)) F elt x) (hs : ∀ x, foldedSetIterable iter X.env x = pure x) (hs2 : ∀ env x, foldedSetIterable iter2 env x = pure x) :
    SE B X N F (.ListComp elt [⟨tg, iter, ifs, 0⟩, ⟨tg2, iter2, ifs2, 0⟩] scope pos) (.lc2 x (.mk k it xi) (.mk k2 it2 xi2)) := by
  intro pins O ρ s S
  subst hk hk2
  show Gw B X (Wm X (eval (.ListComp elt [⟨tg, iter, ifs, 0⟩, ⟨tg2, iter2, ifs2, 0⟩] scope pos) X.env) s) ((evIt F ρ it).bind fun ds => (flatR (lcF2 F ρ ts.length ts2.length xi it2 xi2 x) ds).calm.bind fun l => R.guard (fits l.length) (.ok (D.list l))) _
  have e : ((evIt F ρ it).bind fun ds => (flatR (lcF2 F ρ ts.length ts2.length xi it2 xi2 x) ds).calm.bind fun l => R.guard (fits l.length) (.ok (D.list l))) = ((evIt F ρ it).bind fun ds => (flatR (lcF2 F ρ ts.length ts2.length xi it2 xi2 x) ds).calm.bind fun l => R.guard (fits l.length) (.ok l)).bind fun l => .ok (D.list l) := by
    cases evIt F ρ it with
    | err c => rfl
    | stuck => rfl
    | ok ds =>
      show (flatR _ ds).calm.bind _ = ((flatR _ ds).calm.bind _).bind _
      cases (flatR (lcF2 F ρ ts.length ts2.length xi it2 xi2 x) ds).calm with
      | err c => rfl
      | stuck => rfl
      | ok l =>
        show R.guard (fits l.length) _ = (R.guard (fits l.length) _).bind _
        cases fits l.length <;> rfl
  rw [eval_ListComp, e]
  exact Gw.map (lc2_core hc S hi t t2 hnd ok ht hi2 ht2 he hs hs2 fun l D C s' p => p.pst)
end
end Ev
namespace Ev
open PySem PySem.Spec PyProof.Rows L2
/-- what may change: the callers', the frame's names, the frame's own lists (at A) -/
def Ow (X : Cx) (Oc : Addr → Prop) (N : List Str) (A : Str → Addr) (ρ : List Sl) : Addr → Prop := fun b => Oc b ∨ Zx X b ∨ ∃ x d, x ∈ N ∧ ρ[ix x N]? = some (.own d) ∧ b = A x
/-- what the frame's statements write -/
def On (X : Cx) (N : List Str) (A : Str → Addr) (ρ : List Sl) : Addr → Prop := fun b => Zx X b ∨ b ∈ X.fs ∨ ∃ x d, x ∈ N ∧ ρ[ix x N]? = some (.own d) ∧ b = A x
/-- an own list -/
def OwnD (B : Bk) (O : Addr → Prop) (h : Heap) (n : Nat) (a : Addr) : D → Prop
  | .list ds => ∃ its ep, h.get? a = some { cls := .type "list", data := .seq (List.toArray its) ep } ∧ its.length ≤ sizeLine ∧ DVs B O h n its ds
  | _ => False
structure Sts (B : Bk) (X : Cx) (pins : List (Addr × Obj)) (Oc : Addr → Prop) (N : List Str) (A : Str → Addr) (ρ : List Sl) (s : Shared) : Prop where
  inv : Inv X pins [] X.H_0 s
  tk : 1 ≤ s.toks
  fr : ∀ b ∈ X.fs, Oc b
  dom : ∀ b, Oc b → ∃ o, s.heap.get? b = some o
  dat : ∀ x d, x ∈ N → ρ[ix x N]? = some (.dat d) → Vis X.env.scope x → ∃ u, Lk X s x u ∧ DV B (Ow X Oc N A ρ) s.heap s.toks u d
  own : ∀ x d, x ∈ N → ρ[ix x N]? = some (.own d) → Lk X s x (.ref (A x)) ∧ FpOk X pins X.H_0 (A x) ∧ ¬ Oc (A x) ∧ OwnD B (Ow X Oc N A ρ) s.heap s.toks (A x) d
  inj : ∀ x y d d', x ∈ N → y ∈ N → ρ[ix x N]? = some (.own d) → ρ[ix y N]? = some (.own d') → A x = A y → x = y
/-- what a statement leaves -/
def Ls (O : Addr → Prop) (s s' : Shared) (O' : Addr → Prop) : Prop :=
  (∀ b o, s.heap.get? b = some o → (¬ O b → s'.heap.get? b = some o) ∧ ∃ o', s'.heap.get? b = some o') ∧ (∀ b, O' b → O b ∨ s.heap.get? b = none) ∧ s.toks ≤ s'.toks
section
variable {B : Bk} {X : Cx} {N : List Str} {F : Fx} {tp : Bool} {pins : List (Addr × Obj)} {Oc O O1 O2 : Addr → Prop} {A A' : Str → Addr} {ρ ρ' : List Sl} {s s1 s2 s' : Shared} {pos : Pos} {e : Expr} {x : Ev.X}
theorem Ls.refl : Ls O s s O := ⟨fun b o e => ⟨fun _ => e, o, e⟩, fun _ z => .inl z, Nat.le_refl _⟩
theorem Ls.trans (a : Ls O s s1 O1) (b : Ls O1 s1 s2 O2) : Ls O s s2 O2 := by
  have nn : ∀ b, s1.heap.get? b = none → s.heap.get? b = none := fun c h => by
    cases e : s.heap.get? c with
    | none => rfl
    | some o =>
      obtain ⟨o', q⟩ := (a.1 c o e).2
      rw [h] at q; cases q
  refine ⟨fun c o e => ⟨fun n => ?_, ?_⟩, fun c z => ?_, Nat.le_trans a.2.2 b.2.2⟩
  · refine (b.1 c o ((a.1 c o e).1 n)).1 fun z => ?_
    rcases a.2.1 c z with q | q
    · exact n q
    · rw [e] at q; cases q
  · obtain ⟨o', q⟩ := (a.1 c o e).2
    exact (b.1 c o' q).2
  · rcases b.2.1 c z with q | q
    · exact a.2.1 c q
    · exact .inr (nn c q)
theorem Ls.mono (a : Ls O s s1 O1) (h : ∀ b, O2 b → O1 b) : Ls O s s1 O2 := ⟨a.1, fun b z => a.2.1 b (h b z), a.2.2⟩
theorem Le.ls (l : Le X s s1) (fr : ∀ b ∈ X.env.locals :: X.fs, O b) : Ls O s s1 O := ⟨fun b o e => ⟨fun n => (l.1 b o e).1 fun z => n (fr b z), let ⟨sl, q⟩ := (l.1 b o e).2; ⟨_, q⟩⟩, fun _ z => .inl z, l.2⟩
theorem OwnD.mono {h h' : Heap} {n n' : Nat} {a : Addr} {d : D} (x : OwnD B O h n a d) (k : ∀ b o, ¬ O b → h.get? b = some o → h'.get? b = some o) (ka : ∀ o, h.get? a = some o → h'.get? a = some o) (q : n ≤ n') (w : ∀ b, O1 b → O b) : OwnD B O1 h' n' a d := by
  cases d with
  | list ds =>
    obtain ⟨its, ep, e, z, r⟩ := x
    exact ⟨its, ep, ka _ e, z, r.mono k q w⟩
  | _ => exact x.elim
theorem OwnD.obj {h : Heap} {n : Nat} {a : Addr} {d : D} (x : OwnD B O h n a d) : ∃ o, h.get? a = some o := by
  cases d with
  | list ds =>
    obtain ⟨its, ep, e, z, r⟩ := x
    exact ⟨_, e⟩
  | _ => exact x.elim
theorem fp_nz {b : Addr} {H : Hp} (f : FpOk X pins H b) : ¬ Zx X b := by
  rintro (z | ⟨x, e, _⟩)
  · exact f.2.1 z
  · exact f.2.2.2.2.1 x b e rfl
theorem Zx.obj {b : Addr} (I : Inv X pins [] X.H_0 s) (z : Zx X b) : ∃ o, s.heap.get? b = some o := by
  rcases z with z | ⟨x, e, _⟩
  · obtain ⟨m, ⟨o, _, _, e, _⟩, _⟩ := I.loc
    exact ⟨o, by rw [z]; exact e⟩
  · obtain ⟨v, o, e, _⟩ := I.cell x b e
    exact ⟨o, e⟩
theorem Sts.frO (S : Sts B X pins Oc N A ρ s) : ∀ b ∈ X.env.locals :: X.fs, Ow X Oc N A ρ b := fun b hb => by
  rcases List.mem_cons.mp hb with q | q
  · exact .inr (.inl (.inl q))
  · exact .inl (S.fr b q)
theorem Sts.frN (S : Sts B X pins Oc N A ρ s) : ∀ b ∈ X.env.locals :: X.fs, On X N A ρ b := fun b hb => by
  rcases List.mem_cons.mp hb with q | q
  · exact .inl (.inl q)
  · exact .inr (.inl q)
theorem Sts.now (S : Sts B X pins Oc N A ρ s) : ∀ b, On X N A ρ b → Ow X Oc N A ρ b := fun b hb => by
  rcases hb with z | z | z
  · exact .inr (.inl z)
  · exact .inl (S.fr b z)
  · exact .inr (.inr z)
theorem Sts.ste (S : Sts B X pins Oc N A ρ s) : Ste B X pins (Ow X Oc N A ρ) N ρ s := by
  refine ⟨S.inv, S.tk, S.frO, fun b hb => ?_, ?_⟩
  · rcases hb with z | z | ⟨x, d, hx, e, rfl⟩
    · exact S.dom b z
    · exact z.obj S.inv
    · exact (S.own x d hx e).2.2.2.obj
  · obtain ⟨m, hn, _⟩ := S.inv.loc
    refine ⟨m, hn, fun x d hx e v => ?_⟩
    obtain ⟨u, ⟨m2, hn2, hl⟩, hd⟩ := S.dat x d hx e v
    rw [show m2 = m from funext fun y => hn2.agree hn y] at hl
    exact ⟨u, hl, hd⟩
theorem Sts.step (S : Sts B X pins Oc N A ρ s) (I : Inv X pins [] X.H_0 s1) (l : Le X s s1) : Sts B X pins Oc N A ρ s1 := by
  have kp := fun b o (no : ¬ Ow X Oc N A ρ b) (e : s.heap.get? b = some o) => l.kpt S.frO b o e no
  refine ⟨I, Nat.le_trans S.tk l.2, S.fr, fun b hb => ?_, fun x d hx e v => ?_, fun x d hx e => ?_, S.inj⟩
  · obtain ⟨o, e⟩ := S.dom b hb
    obtain ⟨sl, q⟩ := (l.1 b o e).2
    exact ⟨_, q⟩
  · obtain ⟨u, hl, hd⟩ := S.dat x d hx e v
    exact ⟨u, l.lk hl, l.dat S.frO hd⟩
  · obtain ⟨h1, h2, h3, h4⟩ := S.own x d hx e
    refine ⟨l.lk h1, h2, h3, h4.mono kp (fun o q => (l.1 _ o q).1 fun z => ?_) l.2 fun _ z => z⟩
    rcases List.mem_cons.mp z with w | w
    · exact h2.2.1 w
    · exact h2.2.2.1 w
theorem thaw_get {h : Nat → Bool} : ∀ {ρ : List Sl} {k i : Nat}, (thaw h k ρ)[i]? = match ρ[i]? with | some (.own d) => some (match h (k + i) with | true => .dat d | false => .own d) | o => o
  | [], k, i => by simp [thaw]
  | sl :: ρ, k, 0 => by
    cases sl with
    | own d => simp [thaw] <;> (cases h k <;> rfl)
    | _ => simp [thaw]
  | sl :: ρ, k, i + 1 => by
    have ih := @thaw_get h ρ (k + 1) i
    have e : k + 1 + i = k + (i + 1) := by omega
    rw [e] at ih
    cases sl <;> simp [thaw, ih]
theorem thaw_own {h : Nat → Bool} {i : Nat} {d : D} (e : (thaw h 0 ρ)[i]? = some (.own d)) : ρ[i]? = some (.own d) ∧ h i = false := by
  rw [thaw_get] at e
  rw [Nat.zero_add] at e
  split at e
  · rename_i d' e'
    cases hh : h i with
    | true => rw [hh] at e; cases e
    | false => rw [hh] at e; cases e; exact ⟨e', rfl⟩
  · rename_i o hne
    exact absurd e (fun z => hne d z)
theorem thaw_dat {h : Nat → Bool} {i : Nat} {d : D} (e : (thaw h 0 ρ)[i]? = some (.dat d)) : ρ[i]? = some (.dat d) ∨ (ρ[i]? = some (.own d) ∧ h i = true) := by
  rw [thaw_get] at e
  rw [Nat.zero_add] at e
  split at e
  · rename_i d' e'
    cases hh : h i with
    | true => rw [hh] at e; cases e; exact .inr ⟨e', rfl⟩
    | false => rw [hh] at e; cases e
  · exact .inl e
theorem Sts.thaw (S : Sts B X pins Oc N A ρ s) (h : Nat → Bool) : Sts B X pins Oc N A (Ev.thaw h 0 ρ) s ∧ ∀ b, Ow X Oc N A (Ev.thaw h 0 ρ) b → Ow X Oc N A ρ b := by
  have sub : ∀ b, Ow X Oc N A (Ev.thaw h 0 ρ) b → Ow X Oc N A ρ b := fun b hb => by
    rcases hb with z | z | ⟨x, d, hx, e, q⟩
    · exact .inl z
    · exact .inr (.inl z)
    · exact .inr (.inr ⟨x, d, hx, (thaw_own e).1, q⟩)
  refine ⟨⟨S.inv, S.tk, S.fr, S.dom, fun x d hx e v => ?_, fun x d hx e => ?_, fun x y d d' hx hy e e' q => S.inj x y d d' hx hy (thaw_own e).1 (thaw_own e').1 q⟩, sub⟩
  · rcases thaw_dat e with e | ⟨e, ht⟩
    · obtain ⟨u, hl, hd⟩ := S.dat x d hx e v
      exact ⟨u, hl, hd.mono (fun _ _ _ e => e) (Nat.le_refl _) sub⟩
    · obtain ⟨h1, h2, h3, h4⟩ := S.own x d hx e
      refine ⟨_, h1, ?_⟩
      have no : ¬ Ow X Oc N A (Ev.thaw h 0 ρ) (A x) := by
        rintro (z | z | ⟨y, d', hy, e', q⟩)
        · exact h3 z
        · exact fp_nz h2 z
        · have := S.inj x y d d' hx hy e (thaw_own e').1 q
          subst this
          rw [(thaw_own e').2] at ht
          cases ht
      cases d with
      | list ds =>
        obtain ⟨its, ep, eo, z, r⟩ := h4
        exact .list no eo z (r.mono (fun _ _ _ e => e) (Nat.le_refl _) sub)
      | _ => exact h4.elim
  · obtain ⟨h1, h2, h3, h4⟩ := S.own x d hx (thaw_own e).1
    exact ⟨h1, h2, h3, h4.mono (fun _ _ _ e => e) (fun _ e => e) (Nat.le_refl _) sub⟩
theorem on_thaw {h : Nat → Bool} : ∀ b, On X N A (Ev.thaw h 0 ρ) b → On X N A ρ b := fun b hb => by
  rcases hb with z | z | ⟨x, d, hx, e, q⟩
  · exact .inl z
  · exact .inr (.inl z)
  · exact .inr (.inr ⟨x, d, hx, (thaw_own e).1, q⟩)
/-- an expression within a statement -/
theorem sts_ev (h : SE B X N F e x) (S : Sts B X pins Oc N A ρ s) : Gw B X (Wm X (eval e X.env) s) (ev F (thaw x.has 0 ρ) x) (fun d u s' => Sts B X pins Oc N A (after x.has ρ d) s' ∧ DV B (Ow X Oc N A (after x.has ρ d)) s'.heap s'.toks u d ∧ Ls (On X N A ρ) s s' (On X N A (after x.has ρ d)) ∧ Inv X pins [] X.H_0 s' ∧ Le X s s') := by
  obtain ⟨S1, sub⟩ := S.thaw x.has
  refine (h pins _ _ s S1.ste).mono wm_mono fun d u s' ⟨p1, p2, p3⟩ => ?_
  unfold after
  cases hs : scalar d with
  | true => exact ⟨S.step p1 p2, p3.scalar hs, p2.ls S.frN, p1, p2⟩
  | false =>
    refine ⟨S1.step p1 p2, p3, ?_, p1, p2⟩
    exact (p2.ls S.frN).mono on_thaw
/-- how a statement ends -/
def Nx (B : Bk) (X : Cx) (pins : List (Addr × Obj)) (Oc : Addr → Prop) (N : List Str) (A : Str → Addr) (ρ : List Sl) (s : Shared) (ρ' : List Sl) (s' : Shared) : Prop := ∃ A', Sts B X pins Oc N A' ρ' s' ∧ Ls (On X N A ρ) s s' (On X N A' ρ')
def Rt (B : Bk) (X : Cx) (pins : List (Addr × Obj)) (Oc : Addr → Prop) (s : Shared) (d : D) (u : Value) (s' : Shared) : Prop := Inv X pins [] X.H_0 s' ∧ s.toks ≤ s'.toks ∧ DV B (fun b => Oc b ∨ Zx X b) s'.heap s'.toks u d
def So (B : Bk) (X : Cx) (pins : List (Addr × Obj)) (Oc : Addr → Prop) (N : List Str) (A : Str → Addr) (ρ : List Sl) (s : Shared) (W : (Flow → Shared → Prop) → Prop) : Ev.O → Prop
  | .next ρ' => W fun f s' => f = .next ∧ Nx B X pins Oc N A ρ s ρ' s'
  | .brk ρ' => W fun f s' => f = .brk ∧ Nx B X pins Oc N A ρ s ρ' s'
  | .ret d => W fun f s' => ∃ u, f = .ret u ∧ Rt B X pins Oc s d u s'
  | .err c => Xc B X c → W fun _ _ => False
  | .stuck => True
/-- the callers' things stood at the def's entry -/
def Old (tp : Bool) (X : Cx) (Oc : Addr → Prop) : Prop := tp = true → ∀ b, Oc b → ∃ o, X.s_0.heap.get? b = some o
def SS (tp : Bool) (B : Bk) (X : Cx) (N : List Str) (F : Fx) (st : Stmt) (x : Ev.S) : Prop :=
  ∀ (pins : List (Addr × Obj)) (Oc : Addr → Prop) (A : Str → Addr) (ρ : List Sl) (s : Shared), Sts B X pins Oc N A ρ s → Old tp X Oc → So B X pins Oc N A ρ s (Wm X (PySem.exec st X.env) s) (Ev.exec F x ρ)
def SSs (tp : Bool) (B : Bk) (X : Cx) (N : List Str) (F : Fx) (st : List Stmt) (x : List Ev.S) : Prop :=
  ∀ (pins : List (Addr × Obj)) (Oc : Addr → Prop) (A : Str → Addr) (ρ : List Sl) (s : Shared), Sts B X pins Oc N A ρ s → Old tp X Oc → So B X pins Oc N A ρ s (Wm X (PySem.execs st X.env) s) (Ev.execs F x ρ)
theorem Nx.later (S : Sts B X pins Oc N A ρ s) (l : Ls (On X N A ρ) s s1 (On X N A' ρ')) {ρ2 : List Sl} (h : Nx B X pins Oc N A' ρ' s1 ρ2 s') : Nx B X pins Oc N A ρ s ρ2 s' := let ⟨A2, S2, l2⟩ := h; ⟨A2, S2, l.trans l2⟩
theorem Rt.later (q : s.toks ≤ s1.toks) {d : D} {u : Value} (h : Rt B X pins Oc s1 d u s') : Rt B X pins Oc s d u s' := ⟨h.1, Nat.le_trans q h.2.1, h.2.2⟩
theorem So.later {W : (Flow → Shared → Prop) → Prop} {o : Ev.O} (m : Mono W) (S : Sts B X pins Oc N A ρ s) (l : Ls (On X N A ρ) s s1 (On X N A' ρ')) (h : So B X pins Oc N A' ρ' s1 W o) : So B X pins Oc N A ρ s W o := by
  cases o with
  | next ρ2 => exact m _ _ (fun f s' ⟨q, n⟩ => ⟨q, n.later S l⟩) h
  | brk ρ2 => exact m _ _ (fun f s' ⟨q, n⟩ => ⟨q, n.later S l⟩) h
  | ret d => exact m _ _ (fun f s' ⟨u, q, n⟩ => ⟨u, q, n.later l.2.2⟩) h
  | err c => exact h
  | stuck => trivial
theorem So.rule {W W' : (Flow → Shared → Prop) → Prop} {o : Ev.O} (r : ∀ Q, W Q → W' Q) (h : So B X pins Oc N A ρ s W o) : So B X pins Oc N A ρ s W' o := by
  cases o with
  | next ρ2 => exact r _ h
  | brk ρ2 => exact r _ h
  | ret d => exact r _ h
  | err c => exact fun hx => r _ (h hx)
  | stuck => trivial
/-- an expression, then the rest -/
theorem Gw.to {α β : Type} {W1 : (β → Shared → Prop) → Prop} {W2 : (Flow → Shared → Prop) → Prop} {K : β → Shared → (Flow → Shared → Prop) → Prop} {r : R α} {f : α → Ev.O} {Q1 : α → β → Shared → Prop}
    (mono : Mono W1) (rule : ∀ Q, W1 (fun v s1 => K v s1 Q) → W2 Q) (h : Gw B X W1 r Q1) (k : ∀ a v s1, r = .ok a → Q1 a v s1 → So B X pins Oc N A ρ s (K v s1) (f a)) : So B X pins Oc N A ρ s W2 (r.to f) := by
  cases r with
  | ok a =>
    show So B X pins Oc N A ρ s W2 (f a)
    have k' := fun v s1 => k a v s1 rfl
    cases e : f a with
    | next ρ2 => rw [e] at k'; exact rule _ (mono _ _ (fun v s1 q => k' v s1 q) h)
    | brk ρ2 => rw [e] at k'; exact rule _ (mono _ _ (fun v s1 q => k' v s1 q) h)
    | ret d => rw [e] at k'; exact rule _ (mono _ _ (fun v s1 q => k' v s1 q) h)
    | err c => rw [e] at k'; exact fun hx => rule _ (mono _ _ (fun v s1 q => k' v s1 q hx) h)
    | stuck => trivial
  | err c => exact fun hx => rule _ (mono _ _ (fun v s1 q => False.elim q) (h hx))
  | stuck => trivial
theorem ss_pass : SS tp B X N F (.Pass pos) .pass := fun pins Oc A ρ s S hol => wpAny_Pass ⟨rfl, A, S, Ls.refl⟩
theorem ss_brk : SS tp B X N F (.Break pos) .brk := fun pins Oc A ρ s S hol => wpAny_Break ⟨rfl, A, S, Ls.refl⟩
theorem ss_expr (h : SE B X N F e x) (hs : swapsWith e none pos.line X.env = pure false) : SS tp B X N F (.Expr e pos) (.expr x) := by
  intro pins Oc A ρ s S hol
  show So B X pins Oc N A ρ s _ ((ev F (thaw x.has 0 ρ) x).to fun _ => .next ρ)
  refine Gw.to (K := fun _ s1 Q => Q .next s1) wm_mono (fun Q hq => wpAny_Expr_any hq S.inv.quiet hs) (sts_ev h S) fun d u s1 _ ⟨_, _, _, p1, p2⟩ => ?_
  exact ⟨rfl, A, S.step p1 p2, p2.ls S.frN⟩
theorem ss_ret (h : SE B X N F e x) : SS tp B X N F (.Return (some e) pos) (.ret x) := by
  intro pins Oc A ρ s S hol
  show So B X pins Oc N A ρ s _ ((ev F (thaw x.has 0 ρ) x).to fun d => .ret d)
  refine Gw.to (K := fun u s1 Q => Q (.ret u) s1) wm_mono (fun Q hq => wpAny_Return_some hq) (sts_ev h S) fun d u s1 _ ⟨_, hd, l, p1, p2⟩ => ?_
  exact ⟨u, rfl, p1, p2.2, hd.mono (fun _ _ _ e => e) (Nat.le_refl _) fun b z => z.imp id .inl⟩
theorem ss_if {c : Expr} {a b : List Stmt} {xc : Ev.X} {xa xb : List Ev.S} (hc : ST B X N F c xc) (ha : SSs tp B X N F a xa) (hb : SSs tp B X N F b xb) : SS tp B X N F (.If c a b pos) (.if_ xc xa xb) := by
  intro pins Oc A ρ s S hol
  show So B X pins Oc N A ρ s _ (((ev F (thaw xc.has 0 ρ) xc).bind truth).to fun t => match t with | true => Ev.execs F xa ρ | false => Ev.execs F xb ρ)
  obtain ⟨S1, _⟩ := S.thaw xc.has
  refine Gw.to (W1 := Wm X (isTrue c X.env (eval c X.env)) s) (K := fun t s1 Q => if t = true then wpAny (model X.prog X.w) X.A (PySem.execs a X.env) Q X.xe s1 else wpAny (model X.prog X.w) X.A (PySem.execs b X.env) Q X.xe s1) wm_mono (fun Q hq => wpAny_If hq) (hc pins _ _ s S1.ste) fun t t' s1 _ ⟨p1, p2, p3⟩ => ?_
  subst p3
  have S2 := S.step p1 p2
  have l := p2.ls S.frN
  cases t' with
  | true => exact (So.later wm_mono S l (ha pins Oc A ρ s1 S2 hol)).rule fun Q hq => by rw [if_pos rfl]; exact hq
  | false => exact (So.later wm_mono S l (hb pins Oc A ρ s1 S2 hol)).rule fun Q hq => by rw [if_neg Bool.false_ne_true]; exact hq
theorem sss_nil : SSs tp B X N F [] [] := fun pins Oc A ρ s S hol => wpAny_execs_nil ⟨rfl, A, S, Ls.refl⟩
theorem sss_cons {st : Stmt} {rest : List Stmt} {x : Ev.S} {xs : List Ev.S} (h : SS tp B X N F st x) (hr : SSs tp B X N F rest xs) : SSs tp B X N F (st :: rest) (x :: xs) := by
  intro pins Oc A ρ s S hol
  show So B X pins Oc N A ρ s _ ((Ev.exec F x ρ).then fun ρ' => Ev.execs F xs ρ')
  have h1 := h pins Oc A ρ s S hol
  cases e : Ev.exec F x ρ with
  | next ρ' =>
    rw [e] at h1
    show So B X pins Oc N A ρ s _ (Ev.execs F xs ρ')
    have h1 : Wm X (PySem.exec st X.env) s fun f s' => f = .next ∧ Nx B X pins Oc N A ρ s ρ' s' := h1
    cases e2 : Ev.execs F xs ρ' with
    | stuck => trivial
    | next ρ2 =>
      refine wpAny_execs_cons (thn h1 fun f s1 ⟨q, A', S1, l⟩ => ?_)
      subst q
      have := hr pins Oc A' ρ' s1 S1 hol
      rw [e2] at this
      exact thn this fun f s2 ⟨q, n⟩ => ⟨q, n.later S l⟩
    | brk ρ2 =>
      refine wpAny_execs_cons (thn h1 fun f s1 ⟨q, A', S1, l⟩ => ?_)
      subst q
      have := hr pins Oc A' ρ' s1 S1 hol
      rw [e2] at this
      exact thn this fun f s2 ⟨q, n⟩ => ⟨q, n.later S l⟩
    | ret d =>
      refine wpAny_execs_cons (thn h1 fun f s1 ⟨q, A', S1, l⟩ => ?_)
      subst q
      have := hr pins Oc A' ρ' s1 S1 hol
      rw [e2] at this
      exact thn this fun f s2 ⟨u, q, n⟩ => ⟨u, q, n.later l.2.2⟩
    | err c =>
      intro hx
      refine wpAny_execs_cons (thn h1 fun f s1 ⟨q, A', S1, l⟩ => ?_)
      subst q
      have := hr pins Oc A' ρ' s1 S1 hol
      rw [e2] at this
      exact this hx
  | brk ρ' =>
    rw [e] at h1
    exact wpAny_execs_cons (thn h1 fun f s1 ⟨q, n⟩ => by subst q; exact ⟨rfl, n⟩)
  | ret d =>
    rw [e] at h1
    exact wpAny_execs_cons (thn h1 fun f s1 ⟨u, q, n⟩ => by subst q; exact ⟨u, rfl, n⟩)
  | err c =>
    rw [e] at h1
    exact fun hx => wpAny_execs_cons (thn (h1 hx) fun f s1 z => z.elim)
  | stuck => trivial
end
end Ev
namespace Ev
open PySem PySem.Spec PyProof.Rows L2
section
variable {B : Bk} {X : Cx} {N : List Str} {F : Fx} {tp : Bool} {pins : List (Addr × Obj)} {Oc O O1 O2 : Addr → Prop} {A A' : Str → Addr} {ρ ρ' : List Sl} {s s1 s2 s' : Shared} {pos p2 : Pos} {e : Expr} {x : Ev.X} {ts : List Str}
/-- behind stores into the frame's names -/
theorem sts_asg (S : Sts B X pins Oc N A ρ s) (S' : Ste B X pins (Ow X Oc N A ρ) N ρ' s') (lz : Lz X (Zx X) s s') (kl : Kl X ts s s') (hown : ∀ x d, x ∈ N → ρ'[ix x N]? = some (.own d) → ρ[ix x N]? = some (.own d) ∧ x ∉ ts) : Sts B X pins Oc N A ρ' s' ∧ Ls (On X N A ρ) s s' (On X N A ρ') := by
  have sub : ∀ b, Ow X Oc N A ρ' b → Ow X Oc N A ρ b := fun b hb => by
    rcases hb with z | z | ⟨x, d, hx, e, q⟩
    · exact .inl z
    · exact .inr (.inl z)
    · exact .inr (.inr ⟨x, d, hx, (hown x d hx e).1, q⟩)
  have subn : ∀ b, On X N A ρ' b → On X N A ρ b := fun b hb => by
    rcases hb with z | z | ⟨x, d, hx, e, q⟩
    · exact .inl z
    · exact .inr (.inl z)
    · exact .inr (.inr ⟨x, d, hx, (hown x d hx e).1, q⟩)
  have kp := lz.kpt S.frO (fun b (z : Zx X b) => .inr (.inl z))
  refine ⟨⟨S'.inv, S'.tk, S.fr, fun b hb => S'.dom b (.inl hb), fun x d hx e v => ?_, fun x d hx e => ?_, fun x y d d' hx hy e e' q => S.inj x y d d' hx hy (hown x d hx e).1 (hown y d' hy e').1 q⟩, fun b o e => ⟨fun n => (lz.1 b o e fun z => n (.inl z)).1 fun z => n (S.frN b z), ?_⟩, fun b z => .inl (subn b z), lz.2⟩
  · obtain ⟨m, hn, he⟩ := S'.env
    obtain ⟨u, hl, hd⟩ := he x d hx e v
    exact ⟨u, ⟨m, hn, hl⟩, hd.mono (fun _ _ _ e => e) (Nat.le_refl _) sub⟩
  · obtain ⟨e1, e2⟩ := hown x d hx e
    obtain ⟨h1, h2, h3, h4⟩ := S.own x d hx e1
    refine ⟨kl x _ e2 h1, h2, h3, h4.mono kp (fun o q => (lz.1 _ o q (fp_nz h2)).1 fun z => ?_) lz.2 sub⟩
    rcases List.mem_cons.mp z with w | w
    · exact h2.2.1 w
    · exact h2.2.2.1 w
  · by_cases z : Zx X b
    · exact z.obj S'.inv
    · obtain ⟨sl, q⟩ := (lz.1 b o e z).2
      exact ⟨_, q⟩
theorem set_own {x y : Str} {d d' : D} (hx : x ∈ N) (e : (ρ.set (ix x N) (.dat d))[ix y N]? = some (.own d')) : ρ[ix y N]? = some (.own d') ∧ y ≠ x := by
  by_cases hyx : y = x
  · subst hyx
    by_cases hl : ix y N < ρ.length
    · rw [List.getElem?_set_self hl] at e; cases e
    · rw [List.getElem?_eq_none (by simpa using hl)] at e; cases e
  · rw [List.getElem?_set_ne fun z => hyx (ix_inj hx z.symm)] at e
    exact ⟨e, hyx⟩
theorem put_own {y : Str} {d' : D} : ∀ {ts : List Str} {ds : List D} {ρ : List Sl}, (∀ x ∈ ts, x ∈ N) → ds.length = ts.length → (putS N ρ ts (ds.map .dat))[ix y N]? = some (.own d') → ρ[ix y N]? = some (.own d') ∧ y ∉ ts
  | [], [], ρ, _, _, e => ⟨e, by simp⟩
  | x :: ts, d :: ds, ρ, h, hl, e => by
    obtain ⟨h1, h2⟩ := put_own (ts := ts) (ds := ds) (fun z hz => h z (List.mem_cons_of_mem _ hz)) (by simpa using hl) e
    obtain ⟨h3, h4⟩ := set_own (h x List.mem_cons_self) h1
    exact ⟨h3, by simp only [List.mem_cons, not_or]; exact ⟨h4, h2⟩⟩
theorem zx_wrt {c : Addr} {y : Str} (hw : Wrt X y) (e : X.env.cells.lookup y = some c) (k : X.env.scope.names.lookup y = some .cell) : Zx X c := .inr ⟨y, e, k, hw.fn k⟩
theorem sts_store {M : Model} {AA : Around} {E : Value → Shared → Prop} {y : Str} {u : Value} {d : D} (S : Sts B X pins Oc N A ρ s) (hw : Wrt X y) (hy : y ∈ N) (hd : DV B (Ow X Oc N A ρ) s.heap s.toks u d) :
    wpAny M AA (storeName X.env y u) (fun _ s' => Nx B X pins Oc N A ρ s (ρ.set (ix y N) (.dat d)) s') E s := by
  refine thn (store_dat S.ste hw hy (fun c e k => .inr (.inl (zx_wrt hw e k))) hd) fun _ s' ⟨S', w, _⟩ => ⟨A, sts_asg (ts := [y]) S S' (wr_lz hw w) w.kl fun x d hx e => ?_⟩
  obtain ⟨h1, h2⟩ := set_own hy e
  exact ⟨h1, by simpa using h2⟩
/-- y = e -/
theorem ss_asg {y : Str} {p : Pos} {i : Nat} (h : SE B X N F e x) (hw : Wrt X y) (hy : y ∈ N) (hi : ix y N = i) (hf : fresh x = false) (hs : swapsWith e (some (.Name y p)) pos.line X.env = pure false) : SS tp B X N F (.Assign [.Name y p] e pos) (.asg i x) := by
  intro pins Oc A ρ s S hol
  show So B X pins Oc N A ρ s _ ((ev F (thaw x.has 0 ρ) x).to fun d => .next ((after x.has ρ d).set i (match fresh x with | true => .own d | false => .dat d)))
  rw [hf]
  refine Gw.to (K := fun u s1 Q => wpAny (model X.prog X.w) X.A (storeName X.env y u) (fun _ => Q .next) X.xe s1) wm_mono (fun Q hq => wpAny_Assign_Name hq hs) (sts_ev h S) fun d u s1 _ ⟨S1, hd, l, _, _⟩ => ?_
  subst hi
  exact thn (sts_store S1 hw hy hd) fun _ s2 n => ⟨rfl, n.later S l⟩
/-- (ts) = e -/
theorem unpack_ok {d : D} (hN : ∀ x ∈ ts, x ∈ N) : (∃ own, bindT ts.length d = .ok own ∧ unpack (ts.map (ix · N)) d ρ = .next (putS N ρ ts own) ∧ ∃ ds : List D, own = ds.map .dat ∧ ds.length = ts.length) ∨ unpack (ts.map (ix · N)) d ρ = .stuck := by
  have all : ∀ {ts : List Str} {ds : List D} {ρ : List Sl}, (ds.length = ts.length ∧ setAll ρ (ts.map (ix · N)) ds = some (putS N ρ ts (ds.map .dat))) ∨ (ds.length ≠ ts.length ∧ setAll ρ (ts.map (ix · N)) ds = none) := by
    intro ts
    induction ts with
    | nil =>
      intro ds ρ
      cases ds with
      | nil => exact .inl ⟨rfl, rfl⟩
      | cons d ds => exact .inr ⟨by simp, rfl⟩
    | cons t ts ih =>
      intro ds ρ
      cases ds with
      | nil => exact .inr ⟨by simp, rfl⟩
      | cons d ds =>
        rcases ih (ds := ds) (ρ := ρ.set (ix t N) (.dat d)) with ⟨h1, h2⟩ | ⟨h1, h2⟩
        · exact .inl ⟨by simp [h1], h2⟩
        · exact .inr ⟨by simpa using h1, h2⟩
  have gen : ts.length ≠ 1 → (∃ own, bindT ts.length d = .ok own ∧ unpack (ts.map (ix · N)) d ρ = .next (putS N ρ ts own) ∧ ∃ ds : List D, own = ds.map .dat ∧ ds.length = ts.length) ∨ unpack (ts.map (ix · N)) d ρ = .stuck := fun hl => by
    have eu : unpack (ts.map (ix · N)) d ρ = match d with | .tuple ds => (match setAll ρ (ts.map (ix · N)) ds with | some ρ' => .next ρ' | none => .stuck) | _ => .stuck := by
      match ts, hl with
      | [], _ => cases d <;> rfl
      | _ :: _ :: _, _ => cases d <;> rfl
    rw [eu]
    cases d with
    | tuple ds =>
      rcases all (ts := ts) (ds := ds) (ρ := ρ) with ⟨h1, h2⟩ | ⟨h1, h2⟩
      · refine .inl ⟨ds.map .dat, ?_, ?_, ds, rfl, h1⟩
        · unfold bindT
          split
          · exact absurd (by assumption) hl
          · rename_i e _
            cases e
            rw [show (ts.length == ds.length) = true by simp [h1]]
            rfl
          · rename_i hne
            exact absurd rfl (hne ds)
        · show (match setAll ρ (ts.map (ix · N)) ds with | some ρ' => Ev.O.next ρ' | none => .stuck) = _
          rw [h2]
      · refine .inr ?_
        show (match setAll ρ (ts.map (ix · N)) ds with | some ρ' => Ev.O.next ρ' | none => .stuck) = _
        rw [h2]
    | _ => exact .inr rfl
  match ts, gen with
  | [t], _ => exact .inl ⟨[.dat d], rfl, rfl, [d], rfl, rfl⟩
  | [], g => exact g (by simp)
  | _ :: _ :: _, g => exact g (by simp)
theorem ss_asgT {tg : Expr} {is : List Nat} (hc : X.calm = true) (h : SE B X N F e x) (t : Tg tg ts) (hi : is = ts.map (ix · N)) (hw : ∀ y ∈ ts, Wrt X y ∧ y ∈ N) (hs : swapsWithSole [tg] e pos.line X.env = pure false) (hws : swappedStores [tg] e X.env = pure none) (h1 : (assignEach [tg] X.env).map (·.2) = [assign tg X.env]) : SS tp B X N F (.Assign [tg] e pos) (.asgT is x) := by
  intro pins Oc A ρ s S hol
  subst hi
  show So B X pins Oc N A ρ s _ ((ev F (thaw x.has 0 ρ) x).to fun d => unpack (ts.map (ix · N)) d (after x.has ρ d))
  refine Gw.to (K := fun u s1 Q => wpAny (model X.prog X.w) X.A (assign tg X.env u) (fun _ => Q .next) X.xe s1) wm_mono (fun Q hq => wpAny_Assign_stores (by rw [h1]; exact hq) hs hws) (sts_ev h S) fun d u s1 _ ⟨S1, hd, l, _, _⟩ => ?_
  rcases unpack_ok (d := d) (ρ := after x.has ρ d) (fun y hy => (hw y hy).2) with ⟨own, hb, hu, ds, ho, hl⟩ | hu
  · rw [hu]
    refine thn (asg_tg hc S1.ste t hw (fun c z => .inr (.inl z)) (IT.of hd) hb) fun _ s2 ⟨S2, lz, kl⟩ => ?_
    refine ⟨rfl, Nx.later S l ⟨A, sts_asg S1 S2 lz kl fun y d' hy e => ?_⟩⟩
    subst ho
    exact put_own (fun y hy => (hw y hy).2) hl e
  · rw [hu]
    trivial
theorem sts_list {M : Model} {AA : Around} {E : Value → Shared → Prop} {y : Str} {its : List Value} {ds : List D} (S : Sts B X pins Oc N A ρ s) (hw : Wrt X y) (hy : y ∈ N) (hz : its.length ≤ sizeLine) (hd : DVs B (Ow X Oc N A ρ) s.heap s.toks its ds) :
    wpAny M AA (storeName X.env y (.ref s.heap.objs.size)) (fun _ s' => Nx B X pins Oc N A ρ s (ρ.set (ix y N) (.own (.list ds))) s') E { s with heap := s.heap.push { cls := .type "list", data := .seq its.toArray } } := by
  have kp : ∀ b o, s.heap.get? b = some o → (s.heap.push { cls := .type "list", data := .seq its.toArray }).get? b = some o := fun b o e => Heap.get?_push_of_some _ e
  have l1 : Le X s { s with heap := s.heap.push { cls := .type "list", data := .seq its.toArray } } := Le.kept kp (Nat.le_refl _)
  have S1 := S.step (S.inv.kept (t' := s.toks) kp) l1
  have fz : FpOk X pins X.H_0 s.heap.objs.size := S.inv.fpOk (Nat.le_refl _) (S.inv.hok.fresh (Nat.le_refl _))
  have nO : ∀ b o, s.heap.get? b = some o → b ≠ s.heap.objs.size := fun b o e => Nat.ne_of_lt (Heap.lt_size e)
  refine thn (store_raw S1.ste hw hy fun c e k => .inr (.inl (zx_wrt hw e k))) fun _ s2 ⟨S2, w, ⟨m, hn, hl, hE⟩, _⟩ => ?_
  have lz := wr_lz hw w
  -- the new account
  have sub : ∀ b, Ow X Oc N (fun z => if z = y then s.heap.objs.size else A z) (ρ.set (ix y N) (.own (.list ds))) b → Ow X Oc N A ρ b ∨ b = s.heap.objs.size := fun b hb => by
    rcases hb with z | z | ⟨x, d, hx, e, q⟩
    · exact .inl (.inl z)
    · exact .inl (.inr (.inl z))
    · by_cases hxy : x = y
      · simp only [if_pos hxy] at q
        exact .inr q
      · simp only [if_neg hxy] at q
        rw [List.getElem?_set_ne fun z => hxy (ix_inj hy z.symm)] at e
        exact .inl (.inr (.inr ⟨x, d, hx, e, q⟩))
  have subn : ∀ b, On X N (fun z => if z = y then s.heap.objs.size else A z) (ρ.set (ix y N) (.own (.list ds))) b → On X N A ρ b ∨ b = s.heap.objs.size := fun b hb => by
    rcases hb with z | z | ⟨x, d, hx, e, q⟩
    · exact .inl (.inl z)
    · exact .inl (.inr (.inl z))
    · by_cases hxy : x = y
      · simp only [if_pos hxy] at q
        exact .inr q
      · simp only [if_neg hxy] at q
        rw [List.getElem?_set_ne fun z => hxy (ix_inj hy z.symm)] at e
        exact .inl (.inr (.inr ⟨x, d, hx, e, q⟩))
  have k2 : ∀ b o, s.heap.get? b = some o → ¬ Zx X b → b ∉ X.env.locals :: X.fs → s2.heap.get? b = some o := fun b o e nz nf => (lz.1 b o (kp b o e) nz).1 nf
  have kp2 : ∀ b o, ¬ Ow X Oc N (fun z => if z = y then s.heap.objs.size else A z) (ρ.set (ix y N) (.own (.list ds))) b → s.heap.get? b = some o → s2.heap.get? b = some o := fun b o no e => k2 b o e (fun z => no (.inr (.inl z))) fun z => by
    rcases List.mem_cons.mp z with q | q
    · exact no (.inr (.inl (.inl q)))
    · exact no (.inl (S.fr b q))
  have q2 : s.toks ≤ s2.toks := lz.2
  have gro : ∀ {u : Value} {d : D}, DV B (Ow X Oc N A ρ) s.heap s.toks u d → DV B (Ow X Oc N (fun z => if z = y then s.heap.objs.size else A z) (ρ.set (ix y N) (.own (.list ds)))) s2.heap s2.toks u d := fun h =>
    (h.grow fun b hb => (sub b hb).imp id fun z => push_none (Nat.le_of_eq z.symm)).mono kp2 q2 fun _ z => z
  have gros : ∀ {u : List Value} {d : List D}, DVs B (Ow X Oc N A ρ) s.heap s.toks u d → DVs B (Ow X Oc N (fun z => if z = y then s.heap.objs.size else A z) (ρ.set (ix y N) (.own (.list ds)))) s2.heap s2.toks u d := fun h =>
    (h.grow fun b hb => (sub b hb).imp id fun z => push_none (Nat.le_of_eq z.symm)).mono kp2 q2 fun _ z => z
  have ga : s2.heap.get? s.heap.objs.size = some { cls := .type "list", data := .seq its.toArray } := (lz.1 _ _ (Heap.get?_push_size _ rfl) (fp_nz fz)).1 fun z => by
    rcases List.mem_cons.mp z with q | q
    · exact fz.2.1 q
    · exact fz.2.2.1 q
  have Ly : Lk X s2 y (.ref s.heap.objs.size) := ⟨m, hn, hl⟩
  have hylt : ∀ {d : D}, (ρ.set (ix y N) (.own (.list ds)))[ix y N]? = some (.own d) → d = .list ds := fun {d} e => by
    by_cases hlt : ix y N < ρ.length
    · rw [List.getElem?_set_self hlt] at e
      cases e
      rfl
    · rw [List.getElem?_eq_none (by simpa using hlt)] at e; cases e
  refine ⟨fun z => if z = y then s.heap.objs.size else A z, ⟨S2.inv, S2.tk, S.fr, fun b hb => S2.dom b (.inl hb), fun x d hx e v => ?_, fun x d hx e => ?_, fun x z d d' hx hz' e e' q => ?_⟩, fun b o e => ⟨fun n => ?_, ?_⟩, fun b z => (subn b z).imp id fun q => push_none (Nat.le_of_eq q.symm), q2⟩
  · have hxy : x ≠ y := fun q => by
      subst q
      by_cases hlt : ix x N < ρ.length
      · rw [List.getElem?_set_self hlt] at e; cases e
      · rw [List.getElem?_eq_none (by simpa using hlt)] at e; cases e
    rw [List.getElem?_set_ne fun z => hxy (ix_inj hy z.symm)] at e
    obtain ⟨u, hu, hd'⟩ := S.dat x d hx e v
    exact ⟨u, w.kl x u (by simpa using hxy) (l1.lk hu), gro hd'⟩
  · by_cases hxy : x = y
    · subst hxy
      have ed := hylt e
      subst ed
      simp only [if_true]
      refine ⟨Ly, fz, fun z => ?_, its, 0, ga, hz, gros hd⟩
      obtain ⟨o, eo⟩ := S.dom _ z
      exact nO _ _ eo rfl
    · simp only [if_neg hxy]
      rw [List.getElem?_set_ne fun z => hxy (ix_inj hy z.symm)] at e
      obtain ⟨h1, h2, h3, h4⟩ := S.own x d hx e
      refine ⟨w.kl x _ (by simpa using hxy) (l1.lk h1), h2, h3, ?_⟩
      cases d with
      | list dl =>
        obtain ⟨its', ep', eo, z, r⟩ := h4
        refine ⟨its', ep', k2 _ _ eo (fp_nz h2) fun z => ?_, z, gros r⟩
        rcases List.mem_cons.mp z with q | q
        · exact h2.2.1 q
        · exact h2.2.2.1 q
      | _ => exact h4.elim
  · by_cases hxy : x = y
    · subst hxy
      by_cases hzx : z = x
      · exact hzx.symm
      · simp only [if_true, if_neg hzx] at q
        rw [List.getElem?_set_ne fun w => hzx (ix_inj hy w.symm)] at e'
        obtain ⟨o, eo⟩ := (S.own z d' hz' e').2.2.2.obj
        exact absurd q.symm (nO _ _ eo)
    · rw [List.getElem?_set_ne fun w => hxy (ix_inj hy w.symm)] at e
      by_cases hzy : z = y
      · subst hzy
        simp only [if_true, if_neg hxy] at q
        obtain ⟨o, eo⟩ := (S.own x d hx e).2.2.2.obj
        exact absurd q (nO _ _ eo)
      · simp only [if_neg hxy, if_neg hzy] at q
        rw [List.getElem?_set_ne fun w => hzy (ix_inj hy w.symm)] at e'
        exact S.inj x z d d' hx hz' e e' q
  · exact k2 b o e (fun z => n (.inl z)) fun z => n (S.frN b z)
  · by_cases z : Zx X b
    · exact z.obj S2.inv
    · obtain ⟨sl, q⟩ := (lz.1 b o (kp b o e) z).2
      exact ⟨_, q⟩
theorem ss_asgL {y : Str} {p : Pos} {i : Nat} {es : List Expr} {xs : List Ev.X} (h : SA B X N F es xs) (hl : xs.length ≤ 1000) (hw : Wrt X y) (hy : y ∈ N) (hi : ix y N = i) : SS tp B X N F (.Assign [.Name y p] (.List es p2) pos) (.asg i (.list xs)) := by
  intro pins Oc A ρ s S hol
  have e1 : (Ev.exec F (.asg i (.list xs)) ρ) = (evs F (thaw (Ev.X.list xs).has 0 ρ) xs).to fun l => .next ((thaw (Ev.X.list xs).has 0 ρ).set i (.own (.list l))) := by
    show ((evs F (thaw (Ev.X.list xs).has 0 ρ) xs).bind fun l => .ok (D.list l)).to _ = _
    cases evs F (thaw (Ev.X.list xs).has 0 ρ) xs <;> rfl
  rw [e1]
  obtain ⟨S1, sub⟩ := S.thaw (Ev.X.list xs).has
  refine Gw.to (W1 := Wm X (spliced (backTo p2 (starEach es X.env))) s) (K := fun vs s1 Q => vs.length ≤ sizeLine ∧ wpAny (model X.prog X.w) X.A (storeName X.env y (.ref s1.heap.objs.size)) (fun _ => Q .next) X.xe { s1 with heap := s1.heap.push { cls := .type "list", data := .seq vs.toArray } }) wm_mono
    (fun Q hq => wpAny_Assign_Name (wpAny_List_spliced hq)) (h p2 pins _ _ s S1.ste) fun l vs s1 el ⟨q1, q2, q3⟩ => ?_
  subst hi
  have z : vs.length ≤ sizeLine := by
    rw [q3.length, evs_len el, sizeLine_eq]
    omega
  refine ⟨z, thn (sts_list (S1.step q1 q2) hw hy z q3) fun _ s2 n => ⟨rfl, n.later S ((q2.ls S.frN).mono on_thaw)⟩⟩
end
end Ev
namespace Ev
open PySem PySem.Spec PyProof.Rows L2
section
variable {B : Bk} {X : Cx} {N : List Str} {F : Fx} {tp : Bool} {pins : List (Addr × Obj)} {Oc O O1 O2 : Addr → Prop} {A A' : Str → Addr} {ρ ρ' : List Sl} {s s1 s2 s' : Shared} {pos p2 : Pos} {e : Expr} {x : Ev.X} {ts : List Str} {wr : List Addr}
theorem ow_wr {b : Addr} : Ow X (fun b => Oc b ∨ b ∈ wr) N A ρ b ↔ Ow X Oc N A ρ b ∨ b ∈ wr := by
  constructor
  · rintro ((z | z) | z | z)
    · exact .inl (.inl z)
    · exact .inr z
    · exact .inl (.inr (.inl z))
    · exact .inl (.inr (.inr z))
  · rintro ((z | z | z) | z)
    · exact .inl (.inl z)
    · exact .inr (.inl z)
    · exact .inr (.inr z)
    · exact .inl (.inr z)
theorem Sts.grown (S : Sts B X pins Oc N A ρ s) (I : Inv X pins [] X.H_0 s1) (l : Le X s s1) (hn : ∀ b ∈ wr, s.heap.get? b = none) (hl : ∀ b ∈ wr, ∃ o, s1.heap.get? b = some o) : Sts B X pins (fun b => Oc b ∨ b ∈ wr) N A ρ s1 := by
  have gr : ∀ b, Ow X (fun b => Oc b ∨ b ∈ wr) N A ρ b → Ow X Oc N A ρ b ∨ s.heap.get? b = none := fun b hb => (ow_wr.mp hb).imp id (hn b)
  have kp : ∀ b o, ¬ Ow X (fun b => Oc b ∨ b ∈ wr) N A ρ b → s.heap.get? b = some o → s1.heap.get? b = some o := fun b o no e => (l.1 b o e).1 fun z => no (ow_wr.mpr (.inl (S.frO b z)))
  have S1 := S.step I l
  refine ⟨I, S1.tk, fun b hb => .inl (S.fr b hb), fun b hb => hb.elim (S1.dom b) (hl b), fun x d hx e v => ?_, fun x d hx e => ?_, S.inj⟩
  · obtain ⟨u, hu, hd⟩ := S.dat x d hx e v
    exact ⟨u, l.lk hu, (hd.grow gr).mono kp l.2 fun _ z => z⟩
  · obtain ⟨h1, h2, h3, h4⟩ := S.own x d hx e
    refine ⟨l.lk h1, h2, fun z => ?_, ?_⟩
    · rcases z with z | z
      · exact h3 z
      · obtain ⟨o, e⟩ := h4.obj
        rw [hn _ z] at e
        cases e
    · cases d with
      | list ds =>
        obtain ⟨its, ep, eo, z, r⟩ := h4
        refine ⟨its, ep, (l.1 _ _ eo).1 fun z => ?_, z, (r.grow gr).mono kp l.2 fun _ z => z⟩
        rcases List.mem_cons.mp z with w | w
        · exact h2.2.1 w
        · exact h2.2.2.1 w
      | _ => exact h4.elim
theorem Sts.stop (S : Sts B X pins (fun b => Oc b ∨ b ∈ wr) N A ρ s) (fr : ∀ b ∈ X.fs, Oc b) (I : Inv X pins [] X.H_0 s1) (hw : ∀ b ∈ wr, ¬ Oc b) (hf : ∀ b ∈ wr, FpOk X pins X.H_0 b) (k : ∀ b o, b ∉ wr → s.heap.get? b = some o → s1.heap.get? b = some o) (q : s.toks ≤ s1.toks) : Sts B X pins Oc N A ρ s1 := by
  have lk : ∀ {y : Str} {w : Value}, Lk X s y w → Lk X s1 y w := fun {y w} l => by
    obtain ⟨m, ⟨o, es, ep, ho, r⟩, hu⟩ := l
    refine ⟨m, ⟨o, es, ep, k _ o (fun z => (hf _ z).2.1 rfl) ho, r⟩, ?_⟩
    rcases hu with z | ⟨kk, c, ec, oc, eo, ed⟩
    · exact .inl z
    · exact .inr ⟨kk, c, ec, oc, k c oc (fun z => (hf c z).2.2.2.2.1 y c ec rfl) eo, ed⟩
  have kp : ∀ b o, ¬ Ow X (fun b => Oc b ∨ b ∈ wr) N A ρ b → s.heap.get? b = some o → s1.heap.get? b = some o := fun b o no e => k b o (fun z => no (ow_wr.mpr (.inr z))) e
  refine ⟨I, Nat.le_trans S.tk q, fr, fun b hb => ?_, fun x d hx e v => ?_, fun x d hx e => ?_, S.inj⟩
  · obtain ⟨o, e⟩ := S.dom b (.inl hb)
    exact ⟨o, k b o (fun z => hw b z hb) e⟩
  · obtain ⟨u, hu, hd⟩ := S.dat x d hx e v
    exact ⟨u, lk hu, hd.mono kp q fun b z => ow_wr.mpr (.inl z)⟩
  · obtain ⟨h1, h2, h3, h4⟩ := S.own x d hx e
    exact ⟨lk h1, h2, fun z => h3 (.inl z), h4.mono kp (fun o e => k _ o (fun z => h3 (.inr z)) e) q fun b z => ow_wr.mpr (.inl z)⟩
/-- what a loop needs around it -/
abbrev PO (X : Cx) : Prop := PassesOwn (model X.prog X.w) X.A X.env X.xe
theorem Ls.of_kept (k : ∀ b o, b ∉ wr → s.heap.get? b = some o → s1.heap.get? b = some o) (hl : ∀ b ∈ wr, ∃ o, s1.heap.get? b = some o) (hw : ∀ b ∈ wr, O b) (q : s.toks ≤ s1.toks) : Ls O s s1 O := ⟨fun b o e => ⟨fun n => k b o (fun z => n (hw b z)) e, by
  by_cases z : b ∈ wr
  · exact hl b z
  · exact ⟨o, k b o z e⟩⟩, fun _ z => .inl z, q⟩
/-- behind new records that have turned -/
theorem Ls.new (a : Ls O s s1 O1) (hn : ∀ b ∈ wr, s.heap.get? b = none) (k : ∀ b o, b ∉ wr → s1.heap.get? b = some o → s2.heap.get? b = some o) (q : s1.toks ≤ s2.toks) : Ls O s s2 O1 := by
  refine ⟨fun b o e => ⟨fun n => k b o (fun z => ?_) ((a.1 b o e).1 n), ?_⟩, a.2.1, Nat.le_trans a.2.2 q⟩
  · rw [hn b z] at e; cases e
  · obtain ⟨o', e'⟩ := (a.1 b o e).2
    exact ⟨o', k b o' (fun z => by rw [hn b z] at e; cases e) e'⟩
theorem none_of' {b : Addr} (a : Ls O s s1 O1) (h : s1.heap.get? b = none) : s.heap.get? b = none := by
  cases e : s.heap.get? b with
  | none => rfl
  | some o =>
    obtain ⟨o', q⟩ := (a.1 b o e).2
    rw [h] at q; cases q
theorem forO_brk {t : List Nat} {b : List Sl → Ev.O} {ρ' : List Sl} : ∀ (ds : List D) (ρ : List Sl), forO t b ds ρ ≠ .brk ρ'
  | [], ρ, e => nomatch e
  | d :: ds, ρ, e => by
    have e' : (match (unpack t d ρ).then b with | .next ρ' => forO t b ds ρ' | .brk ρ' => .next ρ' | o => o) = .brk ρ' := e
    cases h : (unpack t d ρ).then b with
    | next ρ2 => rw [h] at e'; exact forO_brk ds ρ2 e'
    | brk ρ2 => rw [h] at e'; cases e'
    | ret d => rw [h] at e'; cases e'
    | err c => rw [h] at e'; cases e'
    | stuck => rw [h] at e'; cases e'
theorem Ls.wr2 (a : Ls O s s1 O1) (b : Ls (fun b => O1 b ∨ b ∈ wr) s1 s2 O2) (hn : ∀ b ∈ wr, s.heap.get? b = none) : Ls O s s2 O2 := by
  have nn : ∀ b, s1.heap.get? b = none → s.heap.get? b = none := fun c h => none_of' a h
  refine ⟨fun c o e => ⟨fun n => ?_, ?_⟩, fun c z => ?_, Nat.le_trans a.2.2 b.2.2⟩
  · refine (b.1 c o ((a.1 c o e).1 n)).1 fun z => ?_
    rcases z with z | z
    · rcases a.2.1 c z with q | q
      · exact n q
      · rw [e] at q; cases q
    · rw [hn c z] at e; cases e
  · obtain ⟨o', q⟩ := (a.1 c o e).2
    exact (b.1 c o' q).2
  · rcases b.2.1 c z with (q | q) | q
    · exact a.2.1 c q
    · exact .inr (hn c q)
    · exact .inr (nn c q)
theorem Ls.wr3 (a : Ls (fun b => O b ∨ b ∈ wr) s s1 O1) (b : Ls (fun b => O1 b ∨ b ∈ wr) s1 s2 O2) : Ls (fun b => O b ∨ b ∈ wr) s s2 O2 :=
  Ls.trans (O1 := fun b => O1 b ∨ b ∈ wr) ⟨a.1, fun b z => z.elim (a.2.1 b) fun z => .inl (.inr z), a.2.2⟩ b
theorem IT.mono {n : Nat} {v : Value} {d : D} (h : IT B O n v d s) (w : ∀ b, O1 b → O b) : IT B O1 n v d s := ⟨fun e => (h.1 e).mono (fun _ _ _ e => e) (Nat.le_refl _) w, fun ne ds e1 e2 => by
  obtain ⟨T, vals, h1, h2, h3⟩ := h.2 ne ds e1 e2
  exact ⟨T, vals, h1, h2, h3.mono (fun _ _ _ e => e) (Nat.le_refl _) w⟩⟩
/-- behind stores into the frame's names, and turned records -/
theorem sts_asgW (S : Sts B X pins (fun b => Oc b ∨ b ∈ wr) N A ρ s) (S' : Ste B X pins (Ow X (fun b => Oc b ∨ b ∈ wr) N A ρ) N ρ' s') (lz : Lz X (fun b => b ∈ wr ∨ Zx X b) s s') (kl : Kl X ts s s') (hown : ∀ x d, x ∈ N → ρ'[ix x N]? = some (.own d) → ρ[ix x N]? = some (.own d) ∧ x ∉ ts) :
    Sts B X pins (fun b => Oc b ∨ b ∈ wr) N A ρ' s' ∧ Ls (fun b => On X N A ρ b ∨ b ∈ wr) s s' (On X N A ρ') := by
  have sub : ∀ b, Ow X (fun b => Oc b ∨ b ∈ wr) N A ρ' b → Ow X (fun b => Oc b ∨ b ∈ wr) N A ρ b := fun b hb => by
    rcases hb with z | z | ⟨x, d, hx, e, q⟩
    · exact .inl z
    · exact .inr (.inl z)
    · exact .inr (.inr ⟨x, d, hx, (hown x d hx e).1, q⟩)
  have subn : ∀ b, On X N A ρ' b → On X N A ρ b := fun b hb => by
    rcases hb with z | z | ⟨x, d, hx, e, q⟩
    · exact .inl z
    · exact .inr (.inl z)
    · exact .inr (.inr ⟨x, d, hx, (hown x d hx e).1, q⟩)
  have kp := lz.kpt S.frO (fun b (z : b ∈ wr ∨ Zx X b) => z.elim (fun z => .inl (.inr z)) fun z => .inr (.inl z))
  refine ⟨⟨S'.inv, S'.tk, S.fr, fun b hb => S'.dom b (.inl hb), fun x d hx e v => ?_, fun x d hx e => ?_, fun x y d d' hx hy e e' q => S.inj x y d d' hx hy (hown x d hx e).1 (hown y d' hy e').1 q⟩, fun b o e => ⟨fun n => (lz.1 b o e fun z => n (z.elim .inr fun z => .inl (.inl z))).1 fun z => n (.inl (S.frN b z)), ?_⟩, fun b z => .inl (.inl (subn b z)), lz.2⟩
  · obtain ⟨m, hn, he⟩ := S'.env
    obtain ⟨u, hl, hd⟩ := he x d hx e v
    exact ⟨u, ⟨m, hn, hl⟩, hd.mono (fun _ _ _ e => e) (Nat.le_refl _) sub⟩
  · obtain ⟨e1, e2⟩ := hown x d hx e
    obtain ⟨h1, h2, h3, h4⟩ := S.own x d hx e1
    refine ⟨kl x _ e2 h1, h2, h3, h4.mono kp (fun o q => (lz.1 _ o q fun z => z.elim (fun z => h3 (.inr z)) (fp_nz h2)).1 fun z => ?_) lz.2 sub⟩
    rcases List.mem_cons.mp z with w | w
    · exact h2.2.1 w
    · exact h2.2.2.1 w
  · by_cases z : b ∈ wr ∨ Zx X b
    · exact S'.dom b (z.elim (fun z => .inl (.inr z)) fun z => .inr (.inl z))
    · obtain ⟨sl, q⟩ := (lz.1 b o e z).2
      exact ⟨_, q⟩
theorem forO_cons {t : List Nat} {b : List Sl → Ev.O} {d : D} {ds : List D} {ρ : List Sl} : forO t b (d :: ds) ρ = match (unpack t d ρ).then b with
    | .next ρ' => forO t b ds ρ'
    | .brk ρ' => .next ρ'
    | o => o := rfl
theorem ss_for {tg iter : Expr} {body : List Stmt} {is : List Nat} {it : Ev.It} {xb : List Ev.S} (hp : PO X) (hc : X.calm = true) (hi : SI B X N F ts.length tg iter it) (t : Tg tg ts) (his : is = ts.map (ix · N)) (hw : ∀ y ∈ ts, Wrt X y ∧ y ∈ N) (hb : SSs false B X N F body xb) (hs : ∀ x, foldedSetIterable iter X.env x = pure x) :
    SS tp B X N F (.For tg iter body [] pos) (.for_ is it xb) := by
  intro pins Oc A ρ s S hol
  subst his
  show So B X pins Oc N A ρ s _ ((evIt F (thaw it.has 0 ρ) it).to fun ds => forO (ts.map (ix · N)) (Ev.execs F xb) ds (thaw it.has 0 ρ))
  obtain ⟨S1, sub⟩ := S.thaw it.has
  refine Gw.to (W1 := fun Q => wpAny (model X.prog X.w) X.A (eval iter X.env) (fun v s1 => wpAny (model X.prog X.w) X.A (pyIter v) Q X.xe s1) X.xe s)
    (K := fun itv s2 Q => codeAny (model X.prog X.w) X.A (.forLoop tg itv body [] X.env) (fun r s' => match r with | .ok f => Q f s' | .error e => cameBackBy (model X.prog X.w) X.A X.env X.xe e s') s2)
    (fun Q Q' m w => thn w fun v s w' => thn w' m) (fun Q hq => wpAny_For hq hs) (hi pins _ _ s S1.ste) fun ds itv s2 _ p => ?_
  obtain ⟨I, fp, wr, Yp, st, ei, I2, l2, T⟩ := p
  subst ei
  have exw : ∀ b ∈ wr, ∃ o, s2.heap.get? b = some o := fun b hb => (T.fps b (T.wk.sub b hb)).2
  have S2 := S1.grown I2 l2 T.new exw
  have hwc : ∀ b ∈ wr, ¬ Oc b := fun b hb z => (T.fps b (T.wk.sub b hb)).1 (.inl z)
  have l12 : Ls (On X N A ρ) s s2 (On X N A (thaw it.has 0 ρ)) := (l2.ls S.frN).mono on_thaw
  generalize hρ1 : thaw it.has 0 ρ = ρ1 at S1 S2 T l12 sub ⊢
  have fpn : ∀ b ∈ fp, ¬ Zx X b ∧ b ∉ X.env.locals :: X.fs := fun b hb => ⟨fun z => (T.fps b hb).1 (.inr (.inl z)), fun z => (T.fps b hb).1 (S1.frO b z)⟩
  have main : ∀ (o : Ev.O) (Q : Flow → Shared → Prop), forO (ts.map (ix · N)) (Ev.execs F xb) ds ρ1 = o → o ≠ .stuck → (∀ c, o = .err c → Xc B X c) →
      (∀ ρ', o = .next ρ' → ∀ s', Nx B X pins Oc N A ρ s ρ' s' → Q .next s') → (∀ d, o = .ret d → ∀ u s', Rt B X pins Oc s d u s' → Q (.ret u) s') →
      codeAny (model X.prog X.w) X.A (.forLoop tg (.ref I) body [] X.env) (fun r s' => match r with | .ok f => Q f s' | .error e => cameBackBy (model X.prog X.w) X.A X.env X.xe e s') s2 := by
    intro o Q eo hst herr hnx hrt
    refine codeAny_forLoop_any (fun n s5 => ∃ i A5 ρ5, n = ds.length - i ∧ i ≤ ds.length ∧ Sts B X pins (fun b => Oc b ∨ b ∈ wr) N A5 ρ5 s5 ∧ st i s5.heap ∧ forO (ts.map (ix · N)) (Ev.execs F xb) (ds.drop i) ρ5 = o ∧ Ls (fun b => On X N A ρ1 b ∨ b ∈ wr) s2 s5 (On X N A5 ρ5)) ?_ ds.length
      ⟨0, A, ρ1, by simp, Nat.zero_le _, S2, T.st, by simpa using eo, fun b o e => ⟨fun _ => e, o, e⟩, fun b z => .inl (.inl z), Nat.le_refl _⟩
    rintro n s5 ⟨i, A5, ρ5, hn, hil, S5, st5, eo5, lw5⟩
    have nwr : ∀ {A7 : Str → Addr} {ρ7 : List Sl} {s7 : Shared}, Sts B X pins (fun b => Oc b ∨ b ∈ wr) N A7 ρ7 s7 → ∀ b ∈ wr, ¬ On X N A7 ρ7 b := fun {A7 ρ7 s7} S7 b hb z => by
      rcases z with z | z | ⟨x, d, hx, e, q⟩
      · exact fp_nz (T.fpk b hb) z
      · exact (T.fpk b hb).2.2.1 z
      · exact (S7.own x d hx e).2.2.1 (.inr (q ▸ hb))
    have fpo : ∀ {A7 : Str → Addr} {ρ7 : List Sl} {s7 : Shared}, Sts B X pins (fun b => Oc b ∨ b ∈ wr) N A7 ρ7 s7 → Ls (fun b => On X N A ρ1 b ∨ b ∈ wr) s2 s7 (On X N A7 ρ7) → ∀ b ∈ fp, ¬ On X N A7 ρ7 b := fun {A7 ρ7 s7} S7 l7 b hb z => by
      rcases l7.2.1 b z with (q | q) | q
      · exact (T.fps b hb).1 (S1.now b q)
      · exact nwr S7 b q z
      · obtain ⟨_, o, e⟩ := T.fps b hb
        rw [q] at e; cases e
    by_cases hlt : i < ds.length
    · have hd : ds[i]? = some ds[i] := List.getElem?_eq_getElem hlt
      rw [List.drop_eq_getElem_cons hlt, forO_cons] at eo5
      rcases unpack_ok (d := ds[i]) (ρ := ρ5) (fun y hy => (hw y hy).2) with ⟨own, hbd, hu, dl, ho, hl⟩ | hu
      · rw [hu] at eo5
        have key := walk_turn (E := X.xe) (Q := fun s6 => Ste B X pins (Ow X (fun b => Oc b ∨ b ∈ wr) N A5 ρ5) N (putS N ρ5 ts own) s6 ∧ st (i + 1) s6.heap ∧ Lz X (fun b => b ∈ wr ∨ Zx X b) s5 s6 ∧ Kl X ts s5 s6) hc T.wk S5.ste st5 hlt t hw (fun c z => .inr (.inl z)) (fun b hb => ⟨.inl (.inr hb), T.fpk b hb⟩) fpn
          (fun v s3 kp q yy => (T.yld (fun b => Ow X (fun b => Oc b ∨ b ∈ wr) N A5 ρ5 b ∨ Ow X Oc N A ρ1 b) (fun b z => ?_) i v s3 ds[i] hd (fun b o e no => kp b o (fun z => no (.inl z)) ((lw5.1 b o e).1 fun z => z.elim (fun z => no (.inr (S1.now b z))) fun z => no (.inl (.inl (.inr z))))) (Nat.le_trans lw5.2.2 q) yy).mono fun b z => .inl z) hbd fun s6 a b c d => ⟨a, b, c, d⟩
        · refine wpAny_passesOwn hp (thn key fun r s' ⟨v, hv, h⟩ => ?_)
          subst hv
          refine wpAny_passesOwn hp (thn h fun _ s1' h1 => wpAny_passesOwn hp (thn h1 fun _ s6 ⟨S6', st6, lz6, kl6⟩ => ?_))
          obtain ⟨S6, l6⟩ := sts_asgW S5 S6' lz6 kl6 fun y d' hy e => by
            subst ho
            exact put_own (fun y hy => (hw y hy).2) hl e
          have lw6 := lw5.wr3 l6
          have hbo := hb pins _ A5 _ s6 S6 (fun z => nomatch z)
          have eo6 : (match Ev.execs F xb (putS N ρ5 ts own) with | .next ρ' => forO (ts.map (ix · N)) (Ev.execs F xb) (ds.drop (i + 1)) ρ' | .brk ρ' => .next ρ' | o => o) = o := eo5
          cases eb : Ev.execs F xb (putS N ρ5 ts own) with
          | next ρ7 =>
            rw [eb] at hbo eo6
            refine wpAny_passesOwn hp (thn hbo fun f s7 ⟨q, A7, S7, l7⟩ => ?_)
            subst q
            have lw7 : Ls (fun b => On X N A ρ1 b ∨ b ∈ wr) s2 s7 (On X N A7 ρ7) := lw6.trans l7
            exact ⟨ds.length - (i + 1), by omega, i + 1, A7, ρ7, rfl, hlt, S7, T.wk.frame _ _ _ st6 fun b hb o e => (l7.1 b o e).1 (fpo S6 lw6 b hb), eo6, lw7⟩
          | brk ρ7 =>
            rw [eb] at hbo eo6
            refine wpAny_passesOwn hp (thn hbo fun f s7 ⟨q, A7, S7, l7⟩ => ?_)
            subst q
            exact hnx ρ7 eo6.symm s7 ⟨A7, S7.stop S.fr S7.inv hwc T.fpk (fun _ _ _ e => e) (Nat.le_refl _), l12.wr2 (lw6.trans l7) T.new⟩
          | ret d =>
            rw [eb] at hbo eo6
            refine wpAny_passesOwn hp (thn hbo fun f s7 ⟨u, q, I7, q7, d7⟩ => ?_)
            subst q
            exact hrt d eo6.symm u s7 ⟨I7, Nat.le_trans l12.2.2 (Nat.le_trans lw6.2.2 q7), d7.mono (fun _ _ _ e => e) (Nat.le_refl _) fun b z => z.imp .inl id⟩
          | err c =>
            rw [eb] at hbo eo6
            exact wpAny_passesOwn hp (thn (hbo (herr c eo6.symm)) fun f s7 z => z.elim)
          | stuck =>
            rw [eb] at eo6
            exact absurd eo6.symm hst
        · rcases z with z | z
          · rcases z with (z | z) | z | ⟨x, d, hx, e, q⟩
            · exact .inl (.inl z)
            · exact .inr (.inl z)
            · exact .inl (.inr (.inl z))
            · rcases lw5.2.1 b (.inr (.inr ⟨x, d, hx, e, q⟩)) with (z | z) | z
              · exact .inl (S1.now b z)
              · exact .inr (.inl z)
              · exact .inr (.inr z)
          · exact .inl z
      · rw [hu] at eo5
        exact absurd eo5.symm hst
    · have ei : i = ds.length := by omega
      subst ei
      rw [List.drop_length] at eo5
      refine wpAny_passesOwn hp (thn (walk_stop (E := X.xe) (Q := fun s6 => Nx B X pins Oc N A ρ s ρ5 s6) T.wk S5.inv st5 T.fpk fun s6 I6 k6 q6 => ?_) fun r s' ⟨hv, h⟩ => ?_)
      · exact ⟨A5, S5.stop S.fr I6 hwc T.fpk k6 q6, (l12.wr2 lw5 T.new).new T.new k6 q6⟩
      · subst hv
        exact wpAny_execs_nil (hnx ρ5 eo5.symm s' h)
  cases eo : forO (ts.map (ix · N)) (Ev.execs F xb) ds ρ1 with
  | stuck => trivial
  | next ρ' => exact main _ _ eo (fun z => nomatch z) (fun c z => nomatch z) (fun ρ2 z s' n => ⟨rfl, by cases z; exact n⟩) fun d z => nomatch z
  | ret d => exact main _ _ eo (fun z => nomatch z) (fun c z => nomatch z) (fun ρ2 z => nomatch z) fun d' z u s' r => ⟨u, rfl, by cases z; exact r⟩
  | err c => exact fun hx => main _ _ eo (fun z => nomatch z) (fun c' z => by cases z; exact hx) (fun ρ2 z => nomatch z) fun d z => nomatch z
  | brk ρ' => exact absurd eo (forO_brk ds ρ1)
end
end Ev
namespace Ev
open PySem PySem.Spec PyProof.Rows L2
section
variable {B : Bk} {X : Cx} {N : List Str} {F : Fx} {tp : Bool} {pins : List (Addr × Obj)} {Oc O O1 O2 : Addr → Prop} {A A' : Str → Addr} {ρ ρ' : List Sl} {s s1 s2 s' : Shared} {pos p2 : Pos} {e : Expr} {x : Ev.X} {ts : List Str} {wr : List Addr}
theorem ev_name {E : Value → Shared → Prop} {y : Str} {u : Value} {Q : Value → Shared → Prop} (I : Inv X pins [] X.H_0 s) (l : Lk X s y u) (hd : (y == ("__debug__" : Str)) = false) (hcd : (y == ("__classdict__" : Str)) = false) (h : Q u s) : wpAny (model X.prog X.w) X.A (eval (.Name y pos) X.env) Q E s := by
  obtain ⟨m, hn, l⟩ := l
  rcases l with ⟨hk, hm⟩ | ⟨hk, c, hc, hcell⟩
  · exact wpAny_Name (wpAny_loadName_local I.ok.kind hk hn hm h) hd
  · rcases hk with hk | hk
    · exact wpAny_Name (wpAny_loadName_cell I.ok.kind hk hc hcell h) hd
    · exact wpAny_Name (wpAny_loadName_free I.ok.kind hk hc hcell h hcd) hd
theorem whileO_succ {c : List Sl → R Bool} {b : List Sl → Ev.O} {n : Nat} {ρ : List Sl} : whileO c b (n + 1) ρ = (c ρ).to fun t => match t with
    | true => match b ρ with
        | .next ρ' => whileO c b n ρ'
        | .brk ρ' => .next ρ'
        | o => o
    | false => .next ρ := rfl
theorem whileO_brk {c : List Sl → R Bool} {b : List Sl → Ev.O} {ρ' : List Sl} : ∀ (n : Nat) (ρ : List Sl), whileO c b n ρ ≠ .brk ρ'
  | 0, ρ, e => nomatch e
  | n + 1, ρ, e => by
    rw [whileO_succ] at e
    cases hc : c ρ with
    | err k => rw [hc] at e; cases e
    | stuck => rw [hc] at e; cases e
    | ok t =>
      rw [hc] at e
      cases t with
      | false => cases e
      | true =>
        have e : (match b ρ with | .next ρ' => whileO c b n ρ' | .brk ρ' => .next ρ' | o => o) = Ev.O.brk ρ' := e
        cases h : b ρ with
        | next ρ2 => rw [h] at e; exact whileO_brk n ρ2 e
        | brk ρ2 => rw [h] at e; cases e
        | ret d => rw [h] at e; cases e
        | err c => rw [h] at e; cases e
        | stuck => rw [h] at e; cases e
theorem ss_while {c : Expr} {body : List Stmt} {xc : Ev.X} {xb : List Ev.S} (hp : PO X) (hc : ST B X N F c xc) (hb : SSs tp B X N F body xb) : SS tp B X N F (.While c body [] pos) (.while_ xc xb) := by
  intro pins Oc A ρ s S hol
  show So B X pins Oc N A ρ s _ (whileO (fun ρ => (ev F (thaw xc.has 0 ρ) xc).bind truth) (Ev.execs F xb) turns ρ)
  have main : ∀ (o : Ev.O) (Q : Flow → Shared → Prop), whileO (fun ρ => (ev F (thaw xc.has 0 ρ) xc).bind truth) (Ev.execs F xb) turns ρ = o → o ≠ .stuck → (∀ c, o = .err c → Xc B X c) →
      (∀ ρ', o = .next ρ' → ∀ s', Nx B X pins Oc N A ρ s ρ' s' → Q .next s') → (∀ d, o = .ret d → ∀ u s', Rt B X pins Oc s d u s' → Q (.ret u) s') →
      wpAny (model X.prog X.w) X.A (PySem.exec (.While c body [] pos) X.env) Q X.xe s := by
    intro o Q eo hst herr hnx hrt
    refine wpAny_While (codeAny_whileLoop (fun n s5 => ∃ A5 ρ5, Sts B X pins Oc N A5 ρ5 s5 ∧ whileO (fun ρ => (ev F (thaw xc.has 0 ρ) xc).bind truth) (Ev.execs F xb) n ρ5 = o ∧ Ls (On X N A ρ) s s5 (On X N A5 ρ5)) ?_ turns ⟨A, ρ, S, eo, Ls.refl⟩)
    rintro n s5 ⟨A5, ρ5, S5, eo5, l5⟩
    cases n with
    | zero => exact absurd eo5.symm hst
    | succ n =>
      rw [whileO_succ] at eo5
      obtain ⟨S1, _⟩ := S5.thaw xc.has
      have hct := hc pins _ _ s5 S1.ste
      cases ht : (ev F (thaw xc.has 0 ρ5) xc).bind truth with
      | stuck => rw [ht] at eo5; exact absurd eo5.symm hst
      | err k =>
        rw [ht] at hct eo5
        exact wpAny_passesOwn hp (thn (hct (herr k eo5.symm)) fun _ _ z => z.elim)
      | ok t =>
        rw [ht] at hct eo5
        refine wpAny_passesOwn hp (thn hct fun t' s6 ⟨p1, p2, p3⟩ => ?_)
        subst p3
        have S6 := S5.step p1 p2
        have l6 := l5.trans (p2.ls S5.frN)
        cases t' with
        | false =>
          rw [if_neg Bool.false_ne_true]
          exact wpAny_execs_nil (hnx ρ5 eo5.symm s6 ⟨A5, S6, l6⟩)
        | true =>
          rw [if_pos rfl]
          have eo6 : (match Ev.execs F xb ρ5 with | .next ρ' => whileO (fun ρ => (ev F (thaw xc.has 0 ρ) xc).bind truth) (Ev.execs F xb) n ρ' | .brk ρ' => .next ρ' | o => o) = o := eo5
          have hbo := hb pins Oc A5 ρ5 s6 S6 hol
          cases eb : Ev.execs F xb ρ5 with
          | next ρ7 =>
            rw [eb] at hbo eo6
            refine wpAny_passesOwn hp (thn hbo fun f s7 ⟨q, A7, S7, l7⟩ => ?_)
            subst q
            exact ⟨n, Nat.lt_succ_self _, A7, ρ7, S7, eo6, l6.trans l7⟩
          | brk ρ7 =>
            rw [eb] at hbo eo6
            refine wpAny_passesOwn hp (thn hbo fun f s7 ⟨q, A7, S7, l7⟩ => ?_)
            subst q
            exact hnx ρ7 eo6.symm s7 ⟨A7, S7, l6.trans l7⟩
          | ret d =>
            rw [eb] at hbo eo6
            refine wpAny_passesOwn hp (thn hbo fun f s7 ⟨u, q, I7, q7, d7⟩ => ?_)
            subst q
            exact hrt d eo6.symm u s7 ⟨I7, Nat.le_trans l6.2.2 q7, d7⟩
          | err k =>
            rw [eb] at hbo eo6
            exact wpAny_passesOwn hp (thn (hbo (herr k eo6.symm)) fun f s7 z => z.elim)
          | stuck =>
            rw [eb] at eo6
            exact absurd eo6.symm hst
  cases eo : whileO (fun ρ => (ev F (thaw xc.has 0 ρ) xc).bind truth) (Ev.execs F xb) turns ρ with
  | stuck => trivial
  | next ρ' => exact main _ _ eo (fun z => nomatch z) (fun c z => nomatch z) (fun ρ2 z s' n => ⟨rfl, by cases z; exact n⟩) fun d z => nomatch z
  | ret d => exact main _ _ eo (fun z => nomatch z) (fun c z => nomatch z) (fun ρ2 z => nomatch z) fun d' z u s' r => ⟨u, rfl, by cases z; exact r⟩
  | err c => exact fun hx => main _ _ eo (fun z => nomatch z) (fun c' z => by cases z; exact hx) (fun ρ2 z => nomatch z) fun d z => nomatch z
  | brk ρ' => exact absurd eo (whileO_brk turns ρ)
theorem sts_write {y : Str} {d0 d1 : D} {h' : Heap} (S : Sts B X pins Oc N A ρ s) (hy : y ∈ N) (e : ρ[ix y N]? = some (.own d0)) (sb : Heap.SameBut (A y) s.heap h') (new : OwnD B (Ow X Oc N A ρ) h' s.toks (A y) d1) :
    Sts B X pins Oc N A (ρ.set (ix y N) (.own d1)) { s with heap := h' } ∧ Ls (On X N A ρ) s { s with heap := h' } (On X N A (ρ.set (ix y N) (.own d1))) := by
  have hlt : ix y N < ρ.length := by
    obtain ⟨h, _⟩ := List.getElem?_eq_some_iff.mp e
    exact h
  have back : ∀ {z : Str} {d : D}, z ∈ N → (ρ.set (ix y N) (.own d1))[ix z N]? = some (.own d) → ∃ d', ρ[ix z N]? = some (.own d') := fun {z d} hz q => by
    by_cases hzy : z = y
    · subst hzy; exact ⟨d0, e⟩
    · rw [List.getElem?_set_ne fun w => hzy (ix_inj hy w.symm)] at q
      exact ⟨d, q⟩
  have forth : ∀ {z : Str} {d : D}, z ∈ N → ρ[ix z N]? = some (.own d) → ∃ d', (ρ.set (ix y N) (.own d1))[ix z N]? = some (.own d') := fun {z d} hz q => by
    by_cases hzy : z = y
    · subst hzy; exact ⟨d1, List.getElem?_set_self hlt⟩
    · exact ⟨d, by rw [List.getElem?_set_ne fun w => hzy (ix_inj hy w.symm)]; exact q⟩
  have sub : ∀ b, Ow X Oc N A (ρ.set (ix y N) (.own d1)) b → Ow X Oc N A ρ b := fun b hb => by
    rcases hb with z | z | ⟨x, d, hx, q, q'⟩
    · exact .inl z
    · exact .inr (.inl z)
    · obtain ⟨d', q⟩ := back hx q
      exact .inr (.inr ⟨x, d', hx, q, q'⟩)
  have subn : ∀ b, On X N A (ρ.set (ix y N) (.own d1)) b → On X N A ρ b := fun b hb => by
    rcases hb with z | z | ⟨x, d, hx, q, q'⟩
    · exact .inl z
    · exact .inr (.inl z)
    · obtain ⟨d', q⟩ := back hx q
      exact .inr (.inr ⟨x, d', hx, q, q'⟩)
  have nay : On X N A ρ (A y) := .inr (.inr ⟨y, d0, hy, e, rfl⟩)
  obtain ⟨o1, o2, o3, o4⟩ := S.own y d0 hy e
  have k1 : ∀ b o, b ∉ [A y] → s.heap.get? b = some o → h'.get? b = some o := fun b o hb q => (sb.2 b fun z => hb (by simp [z])).trans q
  have fch : ∀ b ∈ [A y], FpOk X pins X.H_0 b := fun b hb => by rw [List.mem_singleton.mp hb]; exact o2
  have kp : ∀ b o, ¬ Ow X Oc N A ρ b → s.heap.get? b = some o → h'.get? b = some o := fun b o no q => (sb.2 b fun z => no (z ▸ S.now _ nay)).trans q
  have ea : ∃ o, h'.get? (A y) = some o := new.obj
  refine ⟨⟨Inv.turns (t' := s.toks) S.inv fch k1, S.tk, S.fr, fun b hb => ?_, fun x d hx q v => ?_, fun x d hx q => ?_, fun x z d d' hx hz q q' eq => ?_⟩, fun b o q => ⟨fun n => (sb.2 b fun z => n (z ▸ nay)).trans q, ?_⟩, fun b z => .inl (subn b z), Nat.le_refl _⟩
  · obtain ⟨o, q⟩ := S.dom b hb
    by_cases hby : b = A y
    · subst hby; exact ea
    · exact ⟨o, (sb.2 b hby).trans q⟩
  · have hxy : x ≠ y := fun w => by
      subst w
      rw [List.getElem?_set_self hlt] at q; cases q
    rw [List.getElem?_set_ne fun w => hxy (ix_inj hy w.symm)] at q
    obtain ⟨u, hu, hd⟩ := S.dat x d hx q v
    exact ⟨u, lk_turns (t' := s.toks) fch k1 hu, hd.mono kp (Nat.le_refl _) sub⟩
  · by_cases hxy : x = y
    · subst hxy
      rw [List.getElem?_set_self hlt] at q
      cases q
      exact ⟨lk_turns (t' := s.toks) fch k1 o1, o2, o3, new.mono (fun _ _ _ e => e) (fun _ e => e) (Nat.le_refl _) sub⟩
    · rw [List.getElem?_set_ne fun w => hxy (ix_inj hy w.symm)] at q
      obtain ⟨h1, h2, h3, h4⟩ := S.own x d hx q
      refine ⟨lk_turns (t' := s.toks) fch k1 h1, h2, h3, h4.mono kp (fun o q' => (sb.2 _ fun z => ?_).trans q') (Nat.le_refl _) sub⟩
      exact hxy (S.inj x y d d0 hx hy q e z)
  · obtain ⟨d2, q2⟩ := back hx q
    obtain ⟨d3, q3⟩ := back hz q'
    exact S.inj x z d2 d3 hx hz q2 q3 eq
  · by_cases hby : b = A y
    · subst hby; exact ea
    · exact ⟨o, (sb.2 b hby).trans q⟩
theorem after_own {h : Nat → Bool} {d d' : D} {i : Nat} (e : (after h ρ d)[i]? = some (.own d')) : ρ[i]? = some (.own d') := by
  unfold after at e
  cases hs : scalar d with
  | true => rw [hs] at e; exact e
  | false => rw [hs] at e; exact (thaw_own e).1
theorem ss_append {y : Str} {np apos cpos : Pos} {i : Nat} (h : SE B X N F e x) (hy : y ∈ N) (hi : ix y N = i) (hd : (y == ("__debug__" : Str)) = false) (hcd : (y == ("__classdict__" : Str)) = false)
    (hbase : attributeBase (.Name y np) "append" X.env (eval (.Name y np) X.env) = eval (.Name y np) X.env)
    (hfew : ((backTo cpos (starEach [e] X.env)).all (fun x => !x.1) && (backToKw cpos (keywordEach [] X.env)).all (fun x => x.1.isSome) && decide (([e] : List Expr).length + ([] : List Keyword).length + (if ([] : List Keyword).isEmpty then 0 else 1) < 30)) = true)
    (hline : (apos.endLine == cpos.line) = true) (hs : starEach [e] X.env = [(false, eval e X.env)]) (hsw : swapsWith (.Call (.Attribute (.Name y np) "append" apos) [e] [] cpos) none pos.line X.env = pure false) :
    SS tp B X N F (.Expr (.Call (.Attribute (.Name y np) "append" apos) [e] [] cpos) pos) (.append i x) := by
  intro pins Oc A ρ s S hol
  subst hi
  show So B X pins Oc N A ρ s _ (match ρ[ix y N]? with
      | some (.own _) => (ev F (thaw x.has 0 ρ) x).to fun d => match (after x.has ρ d)[ix y N]? with
          | some (.own (.list l)) => match fits (l.length + 1) with | true => .next ((after x.has ρ d).set (ix y N) (.own (.list (l ++ [d])))) | false => .stuck
          | _ => .stuck
      | _ => .stuck)
  cases e0 : ρ[ix y N]? with
  | none => trivial
  | some sl =>
    cases sl with
    | un => trivial
    | dat d => trivial
    | own d0 =>
      obtain ⟨o1, o2, o3, o4⟩ := S.own y d0 hy e0
      refine Gw.to (W1 := Wm X (eval e X.env) s) (K := fun u s1 Q => wpAny (model X.prog X.w) X.A (call (.builtin "list.append") [.ref (A y), u]) (fun _ s2 => Q .next s2) X.xe s1) wm_mono
        (fun Q hq => wpAny_Expr_any (wpAny_Call_method_late hbase hfew hline rfl (ev_name S.inv o1 hd hcd ?_)) S.inv.quiet hsw) (sts_ev h S) fun d u s1 _ ⟨S1, hdv, l, _, _⟩ => ?_
      · cases d0 with
        | list l0 =>
          obtain ⟨its, ep, eo, z, r⟩ := o4
          refine ⟨"list", "list.append", PySem.F.plainAttrs_list, PySem.F.slot_list_append, PySem.F.type_list_append, ⟨_, eo, rfl⟩, fun a q => (by cases q; exact ⟨_, eo, rfl⟩), ?_⟩
          rw [hs]
          exact Calls.callWith_builtin rfl (Calls.evalArgs_plain (Calls.spliced_cons (thn hq fun u s1 h1 => Calls.spliced_nil h1)))
        | _ => exact o4.elim
      · cases e1 : (after x.has ρ d)[ix y N]? with
        | none => trivial
        | some sl =>
          cases sl with
          | un => trivial
          | dat d => trivial
          | own d1 =>
            cases d1 with
            | list l1 =>
              show So B X pins Oc N A ρ s _ (match fits (l1.length + 1) with | true => .next ((after x.has ρ d).set (ix y N) (.own (.list (l1 ++ [d])))) | false => .stuck)
              cases hf : fits (l1.length + 1) with
              | false => trivial
              | true =>
                obtain ⟨_, _, _, its, ep, eo, z, r⟩ := S1.own y _ hy e1
                have hz := fits_line hf
                have hlen := r.length
                refine append_at (hsz := by rw [List.size_toArray]; exact z) eo fun h' sb ho' => ?_
                have kp : ∀ b o, ¬ Ow X Oc N A (after x.has ρ d) b → s1.heap.get? b = some o → h'.get? b = some o := fun b o no q => (sb.2 b fun w => no (w ▸ S1.now _ (.inr (.inr ⟨y, _, hy, e1, rfl⟩)))).trans q
                have w := sts_write (h' := h') (d1 := .list (l1 ++ [d])) S1 hy e1 sb ⟨its ++ [u], ep + 1, by rw [ho']; simp, by rw [List.length_append]; simp; omega, (r.append (.cons hdv .nil)).mono kp (Nat.le_refl _) fun _ z => z⟩
                exact ⟨rfl, Nx.later S l ⟨A, w⟩⟩
            | _ => trivial
end
end Ev
namespace Ev
open PySem PySem.Spec PyProof.Rows L2
section
variable {B : Bk} {X : Cx} {N : List Str} {F : Fx} {tp : Bool} {pins : List (Addr × Obj)} {Oc O O1 O2 : Addr → Prop} {A A' : Str → Addr} {ρ ρ' : List Sl} {s s1 s2 s' : Shared} {pos p2 : Pos} {e : Expr} {x : Ev.X} {ts : List Str} {wr : List Addr}
/-- the list of a comprehension is stored, the block's frame goes -/
theorem Pc.store {y : Str} {py : Pos} {d : D} {D C : Addr} (S : Sts B X pins Oc N A ρ s) (hw : Wrt X y) (hy : y ∈ N) (p : Pc B X pins (Ow X Oc N A ρ) s d D C s') :
    compPost (model X.prog X.w) X.A X.xe (some (assign (.Name y py) X.env)) (fun _ s2 => Nx B X pins Oc N A ρ s (ρ.set (ix y N) (.dat d)) s2) (.ref D) C (.ok .next) s' := by
  obtain ⟨I, l, hd, f, ⟨m, hn⟩, hC⟩ := p
  have hn1 : ∀ b ∈ [C], s.heap.get? b = none := fun b hb => by rw [List.mem_singleton.mp hb]; exact hC
  have hl1 : ∀ b ∈ [C], ∃ o, s'.heap.get? b = some o := fun b hb => by
    rw [List.mem_singleton.mp hb]
    obtain ⟨o, _, _, e, _⟩ := hn
    exact ⟨o, e⟩
  have S1 := S.grown I l hn1 hl1
  have hd1 : DV B (Ow X (fun b => Oc b ∨ b ∈ [C]) N A ρ) s'.heap s'.toks (.ref D) d := hd.mono (fun _ _ _ e => e) (Nat.le_refl _) fun b z => (ow_wr.mp z).imp id fun z => List.mem_singleton.mp z
  show wpAny _ _ (assign (.Name y py) X.env (.ref D)) _ _ _
  refine wpAny_assign_Name (thn (store_dat S1.ste hw hy (fun c e k => .inr (.inl (zx_wrt hw e k))) hd1) fun _ s2 ⟨S2, w, _⟩ => ?_)
  obtain ⟨S3, l3⟩ := sts_asg (ts := [y]) S1 S2 (wr_lz hw w) w.kl fun x d hx e => by
    obtain ⟨h1, h2⟩ := set_own hy e
    exact ⟨h1, by simpa using h2⟩
  have nO : ¬ Zx X C := fp_nz f
  have hn2 : s2.heap.Ns C m := by
    obtain ⟨a, hs, ha, _⟩ := w
    refine hn.sameBut hs fun z => ?_
    rcases ha with q | ⟨q1, q2⟩
    · exact nO (.inl (z.trans q))
    · exact nO (zx_wrt hw (by rw [z]; exact q1) q2)
  refine ⟨m, hn2, fun h3 sb => ?_⟩
  have k3 : ∀ b o, b ∉ [C] → s2.heap.get? b = some o → h3.get? b = some o := fun b o hb e => (sb.2 b fun z => hb (by simp [z])).trans e
  have f1 : ∀ b ∈ [C], FpOk X pins X.H_0 b := fun b hb => by rw [List.mem_singleton.mp hb]; exact f
  refine ⟨A, S3.stop (s1 := { s2 with heap := h3 }) S.fr (Inv.turns (t' := s2.toks) S3.inv f1 k3) (fun b hb z => ?_) f1 k3 (Nat.le_refl _), ?_⟩
  · obtain ⟨o, e⟩ := S.dom b z
    rw [hn1 b hb] at e
    cases e
  · exact Ls.new (s2 := { s2 with heap := h3 }) ((l.ls S.frN).trans l3) hn1 k3 (Nat.le_refl _)
theorem after_list {h : Nat → Bool} {l : List D} : after h ρ (.list l) = thaw h 0 ρ := rfl
theorem ss_asgLc {y : Str} {py : Pos} {i : Nat} {elt tg iter : Expr} {ifs : List Expr} {scope : Scope} {it : Ev.It} {xi : Option Ev.X} {x : Ev.X} {k : Nat} (hk : k = ts.length) (hc : X.calm = true) (hi : SI B X N F ts.length tg iter it) (t : Tg tg ts) (hnd : ts.Nodup) (ok : BlkS N X.env.scope scope ts)
    (ht : ∀ s3 ex, STs B (bCx scope X s3 ex) (ts ++ N) F ifs xi) (he : ∀ s3 ex, SE B (bCx scope X s3 ex) (ts ++ N) F elt x) (hs : ∀ x, foldedSetIterable iter X.env x = pure x) (hw : Wrt X y) (hy : y ∈ N) (hi' : ix y N = i)
    (hsw : swapsWith (.ListComp elt [⟨tg, iter, ifs, 0⟩] scope p2) (some (.Name y py)) pos.line X.env = pure true) :
    SS tp B X N F (.Assign [.Name y py] (.ListComp elt [⟨tg, iter, ifs, 0⟩] scope p2) pos) (.asg i (.lc x (.mk k it xi))) := by
  intro pins Oc A ρ s S hol
  subst hk hi'
  obtain ⟨S1, sub⟩ := S.thaw (Ev.X.lc x (.mk ts.length it xi)).has
  generalize hρ1 : thaw (Ev.X.lc x (.mk ts.length it xi)).has 0 ρ = ρ1 at S1 sub
  have e1 : Ev.exec F (.asg (ix y N) (.lc x (.mk ts.length it xi))) ρ = ((evIt F ρ1 it).bind fun ds => (filtR (lcF F (· ++ ρ1) ts.length xi x) ds).calm).to fun l => .next (ρ1.set (ix y N) (.dat (.list l))) := by
    show (((evIt F (thaw (Ev.X.lc x (.mk ts.length it xi)).has 0 ρ) it).bind fun ds => (filtR (lcF F (· ++ thaw (Ev.X.lc x (.mk ts.length it xi)).has 0 ρ) ts.length xi x) ds).calm.bind fun l => .ok (D.list l))).to (fun d => .next ((after (Ev.X.lc x (.mk ts.length it xi)).has ρ d).set (ix y N) (.dat d))) = _
    rw [hρ1]
    cases evIt F ρ1 it with
    | err c => rfl
    | stuck => rfl
    | ok ds =>
      show ((filtR (lcF F (· ++ ρ1) ts.length xi x) ds).calm.bind fun l => .ok (D.list l)).to _ = ((filtR (lcF F (· ++ ρ1) ts.length xi x) ds).calm).to _
      cases (filtR (lcF F (· ++ ρ1) ts.length xi x) ds).calm with
      | err c => rfl
      | stuck => rfl
      | ok l =>
        show Ev.O.next ((after (Ev.X.lc x (.mk ts.length it xi)).has ρ (.list l)).set (ix y N) (.dat (.list l))) = _
        rw [after_list, hρ1]
        rfl
  rw [e1]
  refine Gw.to (W1 := fun Q => wpAny (model X.prog X.w) X.A (comprehension (.ListComp elt [⟨tg, iter, ifs, 0⟩] scope p2) scope X.env (firstIterPos [⟨tg, iter, ifs, 0⟩] p2) (newList []) false (eval iter X.env) (some (assign (.Name y py) X.env))) Q X.xe s) (K := fun _ s1 Q => Q .next s1) wm_mono
    (fun Q hq => by
      show wpAny _ _ _ _ _ _
      rw [exec_Assign_Name_used _ _ _ _ hsw]
      refine wpAny_bind (wpAny_standAt (wpAny_bind ?_))
      show wpAny _ X.A (do let _ ← comprehension (.ListComp elt [⟨tg, iter, ifs, 0⟩] scope p2) scope X.env (firstIterPos [⟨tg, iter, ifs, 0⟩] p2) (newList []) false (eval iter X.env) (some (assign (.Name y py) X.env))) _ _ s
      exact wpAny_bind (thn hq fun _ s' h => wpAny_pure (wpAny_pure h)))
    (lc_core (Qf := fun l _ s2 => Nx B X pins Oc N A ρ1 s (ρ1.set (ix y N) (.dat (.list l))) s2) hc S1.ste hi t hnd ok ht he hs fun l D C s' p => p.store S1 hw hy) fun l v s1 _ n => ?_
  have l0 : Ls (On X N A ρ) s s (On X N A ρ1) := by rw [← hρ1]; exact Ls.refl.mono on_thaw
  exact ⟨rfl, n.later S l0⟩
theorem ss_asgLc2 {y : Str} {py : Pos} {i : Nat} {elt tg iter tg2 iter2 : Expr} {ifs ifs2 : List Expr} {scope : Scope} {ts2 : List Str} {it it2 : Ev.It} {xi xi2 : Option Ev.X} {x : Ev.X} {k k2 : Nat} (hk : k = ts.length) (hk2 : k2 = ts2.length) (hc : X.calm = true) (hi : SI B X N F ts.length tg iter it) (t : Tg tg ts) (t2 : Tg tg2 ts2) (hnd : (ts ++ ts2).Nodup) (ok : BlkS N X.env.scope scope (ts ++ ts2))
    (ht : ∀ s3 ex, STs B (bCx scope X s3 ex) (ts ++ (ts2 ++ N)) F ifs xi) (hi2 : ∀ s3 ex, SI B (bCx scope X s3 ex) (ts ++ (ts2 ++ N)) F ts2.length tg2 iter2 it2) (ht2 : ∀ s3 ex, STs B (bCx scope X s3 ex) (ts ++ (ts2 ++ N)) F ifs2 xi2) (he : ∀ s3 ex, SE B (bCx scope X s3 ex) (ts ++ (ts2 ++ N)) F elt x) (hs : ∀ x, foldedSetIterable iter X.env x = pure x) (hs2 : ∀ env x, foldedSetIterable iter2 env x = pure x)
    (hw : Wrt X y) (hy : y ∈ N) (hi' : ix y N = i) (hsw : swapsWith (.ListComp elt [⟨tg, iter, ifs, 0⟩, ⟨tg2, iter2, ifs2, 0⟩] scope p2) (some (.Name y py)) pos.line X.env = pure true) :
    SS tp B X N F (.Assign [.Name y py] (.ListComp elt [⟨tg, iter, ifs, 0⟩, ⟨tg2, iter2, ifs2, 0⟩] scope p2) pos) (.asg i (.lc2 x (.mk k it xi) (.mk k2 it2 xi2))) := by
  intro pins Oc A ρ s S hol
  subst hk hk2 hi'
  obtain ⟨S1, sub⟩ := S.thaw (Ev.X.lc2 x (.mk ts.length it xi) (.mk ts2.length it2 xi2)).has
  generalize hρ1 : thaw (Ev.X.lc2 x (.mk ts.length it xi) (.mk ts2.length it2 xi2)).has 0 ρ = ρ1 at S1 sub
  have e1 : Ev.exec F (.asg (ix y N) (.lc2 x (.mk ts.length it xi) (.mk ts2.length it2 xi2))) ρ = ((evIt F ρ1 it).bind fun ds => (flatR (lcF2 F ρ1 ts.length ts2.length xi it2 xi2 x) ds).calm.bind fun l => R.guard (fits l.length) (.ok l)).to fun l => .next (ρ1.set (ix y N) (.dat (.list l))) := by
    show (((evIt F (thaw (Ev.X.lc2 x (.mk ts.length it xi) (.mk ts2.length it2 xi2)).has 0 ρ) it).bind fun ds => (flatR (lcF2 F (thaw (Ev.X.lc2 x (.mk ts.length it xi) (.mk ts2.length it2 xi2)).has 0 ρ) ts.length ts2.length xi it2 xi2 x) ds).calm.bind fun l => R.guard (fits l.length) (.ok (D.list l)))).to (fun d => .next ((after (Ev.X.lc2 x (.mk ts.length it xi) (.mk ts2.length it2 xi2)).has ρ d).set (ix y N) (.dat d))) = _
    rw [hρ1]
    cases evIt F ρ1 it with
    | err c => rfl
    | stuck => rfl
    | ok ds =>
      show ((flatR (lcF2 F ρ1 ts.length ts2.length xi it2 xi2 x) ds).calm.bind fun l => R.guard (fits l.length) (.ok (D.list l))).to _ = ((flatR (lcF2 F ρ1 ts.length ts2.length xi it2 xi2 x) ds).calm.bind fun l => R.guard (fits l.length) (.ok l)).to _
      cases (flatR (lcF2 F ρ1 ts.length ts2.length xi it2 xi2 x) ds).calm with
      | err c => rfl
      | stuck => rfl
      | ok l =>
        show (R.guard (fits l.length) (.ok (D.list l))).to _ = (R.guard (fits l.length) (.ok l)).to _
        cases fits l.length with
        | false => rfl
        | true =>
          show Ev.O.next ((after (Ev.X.lc2 x (.mk ts.length it xi) (.mk ts2.length it2 xi2)).has ρ (.list l)).set (ix y N) (.dat (.list l))) = _
          rw [after_list, hρ1]
          rfl
  rw [e1]
  refine Gw.to (W1 := fun Q => wpAny (model X.prog X.w) X.A (comprehension (.ListComp elt [⟨tg, iter, ifs, 0⟩, ⟨tg2, iter2, ifs2, 0⟩] scope p2) scope X.env (firstIterPos [⟨tg, iter, ifs, 0⟩, ⟨tg2, iter2, ifs2, 0⟩] p2) (newList []) false (eval iter X.env) (some (assign (.Name y py) X.env))) Q X.xe s) (K := fun _ s1 Q => Q .next s1) wm_mono
    (fun Q hq => by
      show wpAny _ _ _ _ _ _
      rw [exec_Assign_Name_used _ _ _ _ hsw]
      refine wpAny_bind (wpAny_standAt (wpAny_bind ?_))
      show wpAny _ X.A (do let _ ← comprehension (.ListComp elt [⟨tg, iter, ifs, 0⟩, ⟨tg2, iter2, ifs2, 0⟩] scope p2) scope X.env (firstIterPos [⟨tg, iter, ifs, 0⟩, ⟨tg2, iter2, ifs2, 0⟩] p2) (newList []) false (eval iter X.env) (some (assign (.Name y py) X.env))) _ _ s
      exact wpAny_bind (thn hq fun _ s' h => wpAny_pure (wpAny_pure h)))
    (lc2_core (Qf := fun l _ s2 => Nx B X pins Oc N A ρ1 s (ρ1.set (ix y N) (.dat (.list l))) s2) hc S1.ste hi t t2 hnd ok ht hi2 ht2 he hs hs2 fun l D C s' p => p.store S1 hw hy) fun l v s1 _ n => ?_
  have l0 : Ls (On X N A ρ) s s (On X N A ρ1) := by rw [← hρ1]; exact Ls.refl.mono on_thaw
  exact ⟨rfl, n.later S l0⟩
theorem put_set {i : Nat} {a : Sl} : ∀ {ts : List Str} {ss ρ : List Sl}, (∀ y ∈ ts, ix y N ≠ i) → putS N (ρ.set i a) ts ss = (putS N ρ ts ss).set i a
  | [], ss, ρ, _ => by unfold putS; rfl
  | t :: ts, [], ρ, _ => by unfold putS; rfl
  | t :: ts, b :: ss, ρ, h => by
    show putS N ((ρ.set i a).set (ix t N) b) ts ss = (putS N (ρ.set (ix t N) b) ts ss).set i a
    rw [List.set_comm _ _ (Ne.symm (h t List.mem_cons_self))]
    exact put_set fun y hy => h y (List.mem_cons_of_mem _ hy)
theorem put_snoc {t : Str} {b : Sl} : ∀ {ts : List Str} {ss ρ : List Sl}, ss.length = ts.length → putS N ρ (ts ++ [t]) (ss ++ [b]) = (putS N ρ ts ss).set (ix t N) b
  | [], [], ρ, _ => rfl
  | u :: ts, a :: ss, ρ, h => put_snoc (ts := ts) (ss := ss) (by simpa using h)
theorem put_rev : ∀ {ts : List Str} {ss ρ : List Sl}, ts.Nodup → (∀ y ∈ ts, y ∈ N) → ss.length = ts.length → putS N ρ ts.reverse ss.reverse = putS N ρ ts ss
  | [], [], ρ, _, _, _ => rfl
  | t :: ts, a :: ss, ρ, hn, hN, hl => by
    obtain ⟨h1, h2⟩ := List.nodup_cons.mp hn
    rw [List.reverse_cons, List.reverse_cons, put_snoc (by simpa using hl), put_rev h2 (fun y hy => hN y (List.mem_cons_of_mem _ hy)) (by simpa using hl)]
    show (putS N ρ ts ss).set (ix t N) a = putS N (ρ.set (ix t N) a) ts ss
    rw [put_set fun y hy z => ?_]
    have := ix_inj (hN t List.mem_cons_self) z
    exact h1 (this ▸ hy)
theorem sts_binds {M : Model} {AA : Around} {E : Value → Shared → Prop} : ∀ {ys : List Str} {us : List Value} {ds : List D} {ρ : List Sl} {s : Shared}, (∀ y ∈ ys, Wrt X y ∧ y ∈ N) → us.length = ys.length → Sts B X pins Oc N A ρ s → DVs B (Ow X Oc N A ρ) s.heap s.toks us ds →
    wpAny M AA (assignInOrder (ys.map fun n => bindName X.env n) us) (fun _ s' => Nx B X pins Oc N A ρ s (putS N ρ ys (ds.map .dat)) s') E s
  | [], us, ds, ρ, s, hw, hl, S, hd => by
    cases us with
    | nil =>
      cases hd
      exact assignInOrder_nil ⟨A, S, Ls.refl⟩
    | cons _ _ => simp at hl
  | y :: ys, us, ds, ρ, s, hw, hl, S, hd => by
    cases us with
    | nil => simp at hl
    | cons u us =>
      cases hd with
      | cons h1 hr =>
        rename_i d ds
        obtain ⟨w1, w2⟩ := hw y List.mem_cons_self
        refine assignInOrder_cons (wpAny_bindName (thn (store_dat S.ste w1 w2 (fun c e k => .inr (.inl (zx_wrt w1 e k))) h1) fun _ s1 ⟨S1', w, hOa⟩ => ?_))
        obtain ⟨S1, l1⟩ := sts_asg (ts := [y]) S S1' (wr_lz w1 w) w.kl fun x d hx e => by
          obtain ⟨h1, h2⟩ := set_own w2 e
          exact ⟨h1, by simpa using h2⟩
        have sub : ∀ b, Ow X Oc N A (ρ.set (ix y N) (.dat d)) b → Ow X Oc N A ρ b := fun b hb => by
          rcases hb with z | z | ⟨x, d', hx, e, q⟩
          · exact .inl z
          · exact .inr (.inl z)
          · exact .inr (.inr ⟨x, d', hx, (set_own w2 e).1, q⟩)
        exact thn (sts_binds (ys := ys) (fun z hz => hw z (List.mem_cons_of_mem _ hz)) (by simpa using hl) S1 ((w.dats hOa hr).mono (fun _ _ _ e => e) (Nat.le_refl _) sub)) fun _ s2 n => n.later S l1
theorem ss_par {tes es : List Expr} {xs : List Ev.X} {is : List Nat} {k1 k2 : Nat} {q1 q2 : Pos} (hc : X.calm = true) (h : SA B X N F es xs) (hlx : xs.length ≤ 1000) (hl : ts.length ≠ 1) (his : is = ts.map (ix · N)) (hnd : ts.Nodup) (hw : ∀ y ∈ ts, Wrt X y ∧ y ∈ N)
    (hs : swapsWithSole [.Tuple tes k1 q1] (.Tuple es k2 q2) pos.line X.env = pure false) (hws : swappedStores [.Tuple tes k1 q1] (.Tuple es k2 q2) X.env = pure (some ts)) : SS tp B X N F (.Assign [.Tuple tes k1 q1] (.Tuple es k2 q2) pos) (.asgT is (.tuple xs)) := by
  intro pins Oc A ρ s S hol
  subst his
  obtain ⟨S1, sub⟩ := S.thaw (Ev.X.tuple xs).has
  have e1 : Ev.exec F (.asgT (ts.map (ix · N)) (.tuple xs)) ρ = (evs F (thaw (Ev.X.tuple xs).has 0 ρ) xs).to fun l => unpack (ts.map (ix · N)) (.tuple l) (thaw (Ev.X.tuple xs).has 0 ρ) := by
    show ((evs F (thaw (Ev.X.tuple xs).has 0 ρ) xs).bind fun l => .ok (D.tuple l)).to _ = _
    cases evs F (thaw (Ev.X.tuple xs).has 0 ρ) xs <;> rfl
  rw [e1]
  refine Gw.to (W1 := Wm X (spliced (backTo q2 (starEach es X.env))) s) (K := fun vs s1 Q => vs.length ≤ sizeLine ∧ wpAny (model X.prog X.w) X.A (do rule "assign.swapped-stores"; let items ← unpackItems (.ref s1.heap.objs.size) ts.length none; assignInOrder (ts.reverse.map fun n => bindName X.env n) items.reverse; pure Flow.next) Q X.xe { s1 with heap := s1.heap.push { cls := .type "tuple", data := .seq vs.toArray } }) wm_mono
    (fun Q hq => by
      show wpAny _ _ _ _ _ _
      rw [exec_Assign_arm]
      refine wpAny_bind (wpAny_standAt ?_)
      rw [hs]
      refine wpAny_bind (wpAny_pure ?_)
      rw [if_neg Bool.false_ne_true]
      refine wpAny_bind (wpAny_Tuple_spliced (thn hq fun vs s1 h1 => ⟨h1.1, ?_⟩))
      rw [hws]
      exact wpAny_bind (wpAny_pure h1.2)) (h q2 pins _ _ s S1.ste) fun l vs s1 el ⟨j1, j2, j3⟩ => ?_
  have S2 := S1.step j1 j2
  have z : vs.length ≤ sizeLine := by
    rw [j3.length, evs_len el, sizeLine_eq]
    omega
  rcases unpack_ok (N := N) (d := .tuple l) (ρ := thaw (Ev.X.tuple xs).has 0 ρ) (fun y hy => (hw y hy).2) with ⟨own, hb, hu, dl, ho, hdl⟩ | hu
  · rw [hu]
    obtain ⟨ds, ed, el2, eo⟩ := bindT_tup hl hb
    cases ed
    refine ⟨z, ?_⟩
    have hvl : vs.length = ts.length := by rw [j3.length, el2]
    have kp : ∀ b o, s1.heap.get? b = some o → (s1.heap.push { cls := .type "tuple", data := .seq vs.toArray }).get? b = some o := fun b o e => Heap.get?_push_of_some _ e
    have l3 : Le X s1 { s1 with heap := s1.heap.push { cls := .type "tuple", data := .seq vs.toArray } } := Le.kept kp (Nat.le_refl _)
    have S3 := S2.step (j1.kept (t' := s1.toks) kp) l3
    have hnn : ts.length = vs.toArray.size := by rw [List.size_toArray, hvl]
    rw [hnn]
    refine wpAny_bind (wpAny_rule (wpAny_bind (unpackItems_tuple (items := vs.toArray) (S.inv.ok.hd hc) (IsTup.new s1.heap _) fun h' hx' => ?_)))
    have kp4 : ∀ b o, (s1.heap.push { cls := .type "tuple", data := .seq vs.toArray }).get? b = some o → h'.get? b = some o := fun b o e => hx' b o (Nat.ne_of_lt (Heap.lt_size e)) e
    have l4 : Le X { s1 with heap := s1.heap.push { cls := .type "tuple", data := .seq vs.toArray } } { s1 with heap := h' } := Le.kept kp4 (Nat.le_refl _)
    have S4 := S3.step (S3.inv.kept (t' := s1.toks) kp4) l4
    have l34 := l3.trans l4
    rw [List.toList_toArray]
    refine wpAny_bind (thn (sts_binds (ys := ts.reverse) (us := vs.reverse) (ds := l.reverse) (fun y hy => hw y (List.mem_reverse.mp hy)) (by simp [hvl]) S4 (l34.dats S1.frO j3).rev) fun _ s5 n => wpAny_pure ⟨rfl, ?_⟩)
    have n2 := n.later S ((j2.trans l34).ls S.frN |>.mono on_thaw)
    rw [List.map_reverse, put_rev hnd (fun y hy => (hw y hy).2) (by simp [← el2])] at n2
    rw [eo]
    exact n2
  · rw [hu]
    exact trivial
end
end Ev
namespace Ev
open PySem PySem.Spec PyProof.Rows L2
/-- nothing is tracked but what is known -/
def OnlyF (H : Hp) : Prop := ∀ b u, H b = some u → ∃ o v, u = .frz o v
/-- what a def does -/
def FnX (B : Bk) (P : Program) (w : World) (K : PySem.W.Frag) (mg : Str → Option Value) (base : Heap) (F : Fx) (k f : Nat) : Prop :=
  ∀ (A : Around) (outer : List Env) (s : Shared) (H : Hp) (O : Addr → Prop) (us : List Value) (ds : List D), Room k A → Env0 P w K mg base A outer s H → OnlyF H → 1 ≤ s.toks → (∀ b ∈ frs outer, O b) → (∀ b, O b → ∃ o, s.heap.get? b = some o) → DVs B O s.heap s.toks us ds →
    match F.call f ds with
    | .ok d => codeAny (model P w) A (.call (.ref (B.fa f)) ⟨us, []⟩) (fun r s' => ∃ u, r = .ok (.ret u) ∧ s'.os = s.os ∧ AllBare s'.gens ∧ Un (frs outer) [] H H s.heap s'.heap ∧ HOk P w H s'.heap ∧ s.toks ≤ s'.toks ∧ DV B O s'.heap s'.toks u d) s
    | .err c => codeAny (model P w) A (.call (.ref (B.fa f)) ⟨us, []⟩) (fun r s' => ∃ e, r = .error e ∧ L2.CX P w outer H s (fun cls d H' => cls = .ref (B.ca c) ∧ d = none ∧ H' = H) e s') s
    | .stuck => True
section
variable {B : Bk} {X : Cx} {N : List Str} {F : Fx} {tp : Bool} {pins : List (Addr × Obj)} {Oc O O1 O2 : Addr → Prop} {A A' : Str → Addr} {ρ ρ' : List Sl} {s s1 s2 s' : Shared} {pos p2 np : Pos} {e : Expr} {es : List Expr} {x : Ev.X} {xs : List Ev.X} {ts : List Str}
theorem dvs_vals {h : Heap} {n : Nat} : ∀ {us : List Value} {ds : List D}, DVs B O h n us ds → ∃ vs, Vals vs us
  | _, _, .nil => ⟨[], .nil⟩
  | _, _, .cons (v := v) a r => by
    obtain ⟨vs, hv⟩ := dvs_vals r
    have : ∃ y, RelV y v := by
      cases a with
      | none => exact ⟨.non, rfl⟩
      | bool b => exact ⟨.bl b, rfl⟩
      | int i t => exact ⟨.int i, t, rfl⟩
      | str l t _ _ => exact ⟨.str (tS l), t, rfl⟩
      | list _ _ _ _ => exact ⟨.ref _, rfl⟩
      | tuple _ _ _ _ => exact ⟨.ref _, rfl⟩
      | fn f => exact ⟨.ref _, rfl⟩
      | exc _ _ _ => exact ⟨.ref _, rfl⟩
    obtain ⟨y, hy⟩ := this
    exact ⟨y :: vs, .cons hy hv⟩
theorem Inv.noN {H : Hp} {σ : L2.St} (I : Inv X pins σ H s) : Inv { X with N := [] } pins [] H s :=
  ⟨⟨I.ok.mod, I.ok.kind, I.ok.glob, I.ok.blt, I.ok.above, I.ok.inj, I.ok.has, I.ok.cab, I.ok.hd, I.ok.frames, I.ok.stk, I.ok.exf, I.ok.bs, I.ok.bsz, I.ok.noex, I.ok.exfs, I.ok.funs, I.ok.frf⟩,
    I.os, I.bare, I.base, let ⟨m, hn, _⟩ := I.loc; ⟨m, hn, fun i x v _ e2 _ => by simp at e2⟩, I.cell, I.free, I.freeC, I.pin, I.hok, rfl⟩
theorem ix_get {x : Str} : ∀ {N : List Str}, x ∈ N → N[ix x N]? = some x
  | y :: r, h => by
    show (y :: r)[if y = x then 0 else ix x r + 1]? = some x
    by_cases hy : y = x
    · rw [if_pos hy]; simp [hy]
    · rw [if_neg hy]
      rcases List.mem_cons.mp h with q | q
      · exact absurd q.symm hy
      · simpa using ix_get q
/-- the state at a def's entry -/
theorem sts_start {E : XK} {P : Program} {w : World} {K : PySem.W.Frag} {mg : Str → Option Value} {base : Heap} {ps : List Str} {qual : Str} {scope : Scope} {f : Addr} {cd : Value} {AA : Around} {outer : List Env} {H : Hp} {us : List Value} {ds : List D} {k : Nat}
    (S : FnScope N ps scope) (hd : AA.handled = none) (e0 : Env0 P w K mg base AA outer s H) (hl : us.length = ps.length) (htk : 1 ≤ s1.toks) (hfr : ∀ b ∈ frs outer, O b) (hdom : ∀ b, O b → ∃ o, s.heap.get? b = some o) (r : DVs B O s.heap s.toks us ds)
    (x : InCallC s s.heap.objs.size (bindL (envOfC qual scope s.heap.objs.size f cd).kindOf (ps.zip us) fun _ => none) (cellsFrom (s.heap.objs.size + 1) scope.names []) (bindC (envOfC qual scope s.heap.objs.size f cd).kindOf (ps.zip us) fun _ => none) s1) (ht : s.toks ≤ s1.toks) :
    Sts B (cxOf (L2.CX P w) P w K mg base [] qual scope f cd AA outer s H E) [] O N (fun _ => 0) (ds.map .dat ++ List.replicate k .un) s1 := by
  obtain ⟨vs, hv⟩ := dvs_vals r
  have I0 := inv_start (CX := L2.CX P w) (E := E) S hd e0 (by rw [hv.length]; exact hl) hv x
  have I : Inv (cxOf (L2.CX P w) P w K mg base [] qual scope f cd AA outer s H E) [] [] H s1 := Inv.noN I0
  have noown : ∀ (i : Nat) (d : D), (ds.map Sl.dat ++ List.replicate k .un)[i]? = some (.own d) → False := fun i d e => by
    by_cases hi : i < ds.length
    · rw [List.getElem?_append_left (by simpa using hi), List.getElem?_map] at e
      cases h : ds[i]? with
      | none => rw [h] at e; cases e
      | some y => rw [h] at e; cases e
    · rw [List.getElem?_append_right (by simpa using Nat.le_of_not_lt hi), List.getElem?_replicate] at e
      split at e <;> cases e
  refine ⟨I, htk, hfr, fun b hb => ?_, fun y d hy e v => ?_, fun y d hy e => (noown _ _ e).elim, fun y z d d' hy hz e => (noown _ _ e).elim⟩
  · obtain ⟨o, q⟩ := hdom b hb
    exact ⟨o, x.toInCall.keep b o q⟩
  · have hi : ix y N < ds.length := by
      by_cases hi : ix y N < ds.length
      · exact hi
      · rw [List.getElem?_append_right (by simpa using Nat.le_of_not_lt hi), List.getElem?_replicate] at e
        split at e <;> cases e
    rw [List.getElem?_append_left (by simpa using hi), List.getElem?_map] at e
    have hd' : ds[ix y N]? = some d := by
      cases h : ds[ix y N]? with
      | none => rw [h] at e; cases e
      | some z => rw [h] at e; cases e; rfl
    obtain ⟨u, hu, hdv⟩ := r.get hd'
    have hpl : ix y N < ps.length := by rw [← hl, r.length]; exact hi
    have hp : ps[ix y N]? = some y := by
      rw [← S.pre, List.getElem?_take_of_lt hpl]
      exact ix_get hy
    have ndP : ps.Nodup := by rw [← S.pre]; exact S.nd.sublist (List.take_sublist _ _)
    refine ⟨u, ?_, (hdv.grow fun b hb => ?_).mono (fun b o _ q => x.toInCall.keep b o q) ht fun _ z => z⟩
    · rcases S.par y (List.mem_of_getElem? hp) with kk | kk
      · exact ⟨_, x.toInCall.ns, .inl ⟨kk, bindL_get ndP hp hu kk⟩⟩
      · obtain ⟨c, ec⟩ := cell_has (n := s.heap.objs.size + 1) kk
        refine ⟨_, x.toInCall.ns, .inr ⟨.inl kk, c, ec, ?_⟩⟩
        have q := x.cell y c ec
        rw [bindC_get ndP hp hu (by show scope.names.lookup y ≠ _; rw [kk]; decide)] at q
        exact q
    · rcases hb with z | z | ⟨y', d'', hy', e', _⟩
      · exact .inl z
      · refine .inr (push_none ?_)
        rcases z with z | ⟨y', e1, _, _⟩
        · exact Nat.le_of_eq z.symm
        · exact Nat.le_of_lt (x.above y' b (PySem.mem_of_lookup e1))
      · exact (noown _ _ e').elim
theorem fnx_of {P : Program} {w : World} {K : PySem.W.Frag} {mg : Str → Option Value} {base : Heap} {k f : Nat} {name qual : Str} {params : Arguments} {body : List Stmt} {scope : Scope} {dV kV doc pm cdv ct oc : Value} {an od : Option Addr} {osl : Array (Option Value)} {ps : List Str} {F F' : Fx} {df : Df}
    (hF : ∀ ds, F'.call f ds = runDf F df ds) (lk : K.lookup (B.fa f) = some ⟨oc, od, .func (PySem.W.fnOf name qual params body scope dV kV doc pm an cdv ct), osl⟩) (hcd : PySem.W.codeIn K cdv qual = true) (S : FnScope N ps scope) (hbn : Binds K (PySem.W.fnOf name qual params body scope dV kV doc pm an cdv ct) ps []) (hpar : df.pars = ps.length)
    (hbody : ∀ (A : Around) (outer : List Env) (s : Shared) (H : Hp) (E : XK), Room k (A.deeper (envOfC qual scope s.heap.objs.size (B.fa f) cdv)) → OnlyF H → SSs true B (cxOf (L2.CX P w) P w K mg base [] qual scope (B.fa f) cdv A outer s H E) N F body df.body) : FnX B P w K mg base F' (k + 1) f := by
  intro A outer s H O us ds hr e0 hof htk hfr hdom r
  rw [hF]
  unfold runDf
  cases hlen : ds.length == df.pars with
  | false => trivial
  | true =>
    have hl : us.length = ps.length := by
      rw [r.length, ← hpar]
      simpa using hlen
    have KX : K.In s.heap := e0.mod.kin.keeps fun b o e => (e0.bs b o e).1
    have lim : s.heap.NoLimit := e0.mod.nolimit.keeps fun b o e => (e0.bs b o e).1
    have hkind : ∀ y ∈ ps.zip us, scope.names.lookup y.1 = some .local ∨ (scope.names.lookup y.1 = some .cell ∧ ((cellsFrom (s.heap.objs.size + 1) scope.names []).lookup y.1).isSome = true) := fun ⟨n, v⟩ hy => by
      rcases S.par n (List.of_mem_zip hy).1 with q | q
      · exact .inl q
      · exact .inr ⟨q, PySem.W.cellsFrom_some _ _ _ (.inl q)⟩
    have b := hbn s us KX (by rw [List.append_nil]; exact hl)
    rw [List.append_nil] at b
    -- the body, whatever is wished of exceptions
    have go : ∀ (E : XK) (R : Result → Shared → Prop), (∀ s1, Sts B (cxOf (L2.CX P w) P w K mg base [] qual scope (B.fa f) cdv A outer s H E) [] O N (fun _ => 0) (ds.map .dat ++ List.replicate df.slots .un) s1 → s.toks ≤ s1.toks →
        wpAny (model P w) (A.deeper (envOfC qual scope s.heap.objs.size (B.fa f) cdv)) (PySem.execs body (envOfC qual scope s.heap.objs.size (B.fa f) cdv)) (fun fl s' => R (.ok (.ret (match fl with | .ret v => v | _ => .none))) s')
          (fun e s' => wpAny (model P w) (A.deeper (envOfC qual scope s.heap.objs.size (B.fa f) cdv)) (leaving (envOfC qual scope s.heap.objs.size (B.fa f) cdv) e) (fun _ s'' => R (.error e) s'') (fun e' s'' => R (.error e') s'') s') s1) →
        codeAny (model P w) A (.call (.ref (B.fa f)) ⟨us, []⟩) R s := fun E R hgo => by
      refine codeAny_call_function hr.depth (KX _ _ lk) rfl S.co S.gen rfl (PySem.W.codeRec_of KX hcd) (b _ _ _ _ ?_)
      refine wpAny_with_toks (n := s.toks) (Nat.le_refl _) (wpAny_newFunctionEnv_cells S.kind hkind fun env he s1 x ht => ?_)
      subst he
      refine ⟨lim.keeps x.toInCall.keep, codeAny_func ?_⟩
      exact hgo s1 (sts_start S hr.hd e0 hl (Nat.le_trans htk ht) hfr hdom r x ht) ht
    have un : ∀ {E : XK} {s' : Shared}, Inv (cxOf (L2.CX P w) P w K mg base [] qual scope (B.fa f) cdv A outer s H E) [] [] H s' → s'.os = s.os ∧ AllBare s'.gens ∧ Un (frs outer) [] H H s.heap s'.heap ∧ HOk P w H s'.heap := fun J => ⟨J.os, J.bare, J.base, J.hok⟩
    cases eo : Ev.execs F df.body (ds.map .dat ++ List.replicate df.slots .un) with
    | stuck => trivial
    | brk ρ' => trivial
    | next ρ' =>
      refine go (fun _ _ _ => False) _ fun s1 S1 ht => ?_
      have hb := hbody A outer s H (fun _ _ _ => False) (hr.deeper _) hof [] O _ _ s1 S1 (fun _ => hdom)
      rw [eo] at hb
      refine wpAny_mono hb (fun fl s' ⟨q, A', S', l⟩ => ?_) fun e s' he => ?_
      · subst q
        obtain ⟨u1, u2, u3, u4⟩ := un S'.inv
        exact ⟨.none, rfl, u1, u2, u3, u4, Nat.le_trans ht l.2.2, .none⟩
      · have he : wpAny (model P w) (A.deeper (envOfC qual scope s.heap.objs.size (B.fa f) cdv)) (leaving (envOfC qual scope s.heap.objs.size (B.fa f) cdv) e) (fun _ s'' => L2.CX P w outer H s (fun _ _ _ => False) e s'') (fun e' s'' => L2.CX P w outer H s (fun _ _ _ => False) e' s'') s' := he
        exact wpAny_mono he (fun _ _ ⟨_, _, _, _, _, _, _, _, _, _, _, _, z⟩ => z.elim) fun _ _ ⟨_, _, _, _, _, _, _, _, _, _, _, _, z⟩ => z.elim
    | ret d =>
      refine go (fun _ _ _ => False) _ fun s1 S1 ht => ?_
      have hb := hbody A outer s H (fun _ _ _ => False) (hr.deeper _) hof [] O _ _ s1 S1 (fun _ => hdom)
      rw [eo] at hb
      refine wpAny_mono hb (fun fl s' ⟨u, q, J, q2, hd⟩ => ?_) fun e s' he => ?_
      · subst q
        obtain ⟨u1, u2, u3, u4⟩ := un J
        exact ⟨u, rfl, u1, u2, u3, u4, Nat.le_trans ht q2, hd.mono (fun _ _ _ e => e) (Nat.le_refl _) fun b z => .inl z⟩
      · have he : wpAny (model P w) (A.deeper (envOfC qual scope s.heap.objs.size (B.fa f) cdv)) (leaving (envOfC qual scope s.heap.objs.size (B.fa f) cdv) e) (fun _ s'' => L2.CX P w outer H s (fun _ _ _ => False) e s'') (fun e' s'' => L2.CX P w outer H s (fun _ _ _ => False) e' s'') s' := he
        exact wpAny_mono he (fun _ _ ⟨_, _, _, _, _, _, _, _, _, _, _, _, z⟩ => z.elim) fun _ _ ⟨_, _, _, _, _, _, _, _, _, _, _, _, z⟩ => z.elim
    | err c =>
      refine go (fun cls d H' => cls = .ref (B.ca c) ∧ d = none ∧ H' = H) _ fun s1 S1 ht => ?_
      have hb := hbody A outer s H (fun cls d H' => cls = .ref (B.ca c) ∧ d = none ∧ H' = H) (hr.deeper _) hof [] O _ _ s1 S1 (fun _ => hdom)
      rw [eo] at hb
      have tk : Xc B (cxOf (L2.CX P w) P w K mg base [] qual scope (B.fa f) cdv A outer s H (fun cls d H' => cls = .ref (B.ca c) ∧ d = none ∧ H' = H)) c := takes_of rfl rfl rfl rfl
      refine wpAny_mono (hb tk) (fun fl s' z => z.elim) fun e s' he => ?_
      have he : wpAny (model P w) (A.deeper (envOfC qual scope s.heap.objs.size (B.fa f) cdv)) (leaving (envOfC qual scope s.heap.objs.size (B.fa f) cdv) e) (fun _ s'' => L2.CX P w outer H s (fun cls d H' => cls = .ref (B.ca c) ∧ d = none ∧ H' = H) e s'') (fun e' s'' => L2.CX P w outer H s (fun cls d H' => cls = .ref (B.ca c) ∧ d = none ∧ H' = H) e' s'') s' := he
      exact wpAny_mono he (fun _ _ z => ⟨e, rfl, z⟩) fun e' _ z => ⟨e', rfl, z⟩
/-- what calls need of the context -/
structure Cal (B : Bk) (X : Cx) (F : Fx) (k : Nat) : Prop where
  room : Room k X.A
  fns : ∀ f, FnX B X.prog X.w X.K X.mg X.base F k f
  only : OnlyF X.H_0
theorem Le.of_un (hof : OnlyF X.H_0) (I : Inv X pins [] X.H_0 s) (u : Un (frs X.stack) [] X.H_0 X.H_0 s.heap s1.heap) (hok : HOk X.prog X.w X.H_0 s1.heap) (q : s.toks ≤ s1.toks) : Le X s s1 := ⟨fun b o e => by
  cases hb : X.H_0 b with
  | none => exact ⟨fun nb => u.keep b o e hb (fun z => nb (I.stkSub b z)) (by simp), u.any e hb (by simp)⟩
  | some w =>
    obtain ⟨o', v, ew⟩ := hof b w hb
    rw [ew] at hb
    obtain ⟨e1, _⟩ := (show ObjOk X.prog X.w X.H_0 s.heap b (.frz o' v) from I.hok b _ hb)
    obtain ⟨e2, _⟩ := (show ObjOk X.prog X.w X.H_0 s1.heap b (.frz o' v) from hok b _ hb)
    rw [e] at e1
    cases e1
    exact ⟨fun _ => e2, o.slots, e2⟩, q⟩
/-- the callee runs -/
theorem run_f {k f : Nat} {us : List Value} {ds : List D} (C : Cal B X F k) (S : Ste B X pins O N ρ s) (r : DVs B O s.heap s.toks us ds) : Gw B X (Wm X (call (.ref (B.fa f)) us) s) (F.call f ds) (Pst B X pins O s) := by
  have h := C.fns f X.A X.stack s X.H_0 O us ds C.room S.inv.env0 C.only S.tk (fun b hb => S.fr b (S.inv.stkSub b hb)) S.dom r
  cases ec : F.call f ds with
  | stuck => trivial
  | ok d =>
    rw [ec] at h
    refine wpAny_call (codeAny_mono h fun r s' ⟨u, hr, h1, h2, h3, h4, h5, h6⟩ => ?_)
    subst hr
    exact ⟨S.inv.call' (ch := []) h1 h3 h4 h2 (fun b z => absurd z (by simp)), Le.of_un C.only S.inv h3 h4 h5, h6⟩
  | err c =>
    rw [ec] at h
    intro hx
    refine wpAny_call (codeAny_mono h fun r s' ⟨u, hr, hc⟩ => ?_)
    subst hr
    exact hx u s' (XE.of_call S.inv (fun cls d H' z => z) hc)
theorem se_call {k f : Nat} {nm : Str} (C : Cal B X F k) (hm : X.mg nm = some (.ref (B.fa f))) (hk : PySem.W.keepIn X.K (.ref (B.fa f)) = true) (hg : L2.Gl X nm) (ha : SA B X N F (e :: es) xs) (hdb : (nm == ("__debug__" : Str)) = false)
    (he : starEach (e :: es) X.env = (false, eval e X.env) :: starEach es X.env) (hpl : (backTo pos (starEach es X.env)).any (·.1) = false) : SE B X N F (.Call (.Name nm np) (e :: es) [] pos) (.call f xs) := by
  intro pins O ρ s S
  show Gw B X _ ((evs F ρ xs).bind fun l => F.call f l) _
  refine Gw.bind (W1 := Wm X (spliced (backTo pos (starEach (e :: es) X.env))) s) (K := fun us s1 Q => X.K.In s1.heap ∧ wpAny (model X.prog X.w) X.A (call (.ref (B.fa f)) us) Q X.xe s1) wm_mono
    (fun Q hq => wpAny_Call_Name_kw (ld_glob S.inv hg hm (PySem.W.callWith_K (h₀ := X.base) S.inv.ok.mod.kin hk hq he hpl) hdb)) (ha pos pins O ρ s S) fun ds us s1 _ p => ?_
  have S1 := S.step p.1 p.2.1
  exact ((run_f C S1 p.2.2).later wm_mono p.2.1).rule fun Q hq => ⟨S1.inv.kIn, hq⟩
/-- [f, g, ..][i](..) -/
theorem se_callv {k : Nat} {g : Expr} {xg : Ev.X} (C : Cal B X F k) (hkeep : ∀ f, PySem.W.keepIn X.K (.ref (B.fa f)) = true) (hg : SE B X N F g xg) (ha : SA B X N F (e :: es) xs)
    (he : starEach (e :: es) X.env = (false, eval e X.env) :: starEach es X.env) (hpl : (backTo pos (starEach es X.env)).any (·.1) = false)
    (hev : eval (.Call g (e :: es) [] pos) X.env = (do callWith pos (← eval g X.env) [] (backTo pos (starEach (e :: es) X.env)) (backToKw pos (keywordEach [] X.env)))) : SE B X N F (.Call g (e :: es) [] pos) (.callv xg xs) := by
  intro pins O ρ s S
  show Gw B X _ ((ev F ρ xg).bind fun x => match x with | .fn f => (evs F ρ xs).bind fun l => F.call f l | _ => .stuck) _
  refine Gw.bind (W1 := Wm X (eval g X.env) s) (K := fun v s1 Q => wpAny (model X.prog X.w) X.A (callWith pos v [] (backTo pos (starEach (e :: es) X.env)) []) Q X.xe s1) wm_mono (fun Q hq => Call_ hq hev) (hg pins O ρ s S) fun d v s1 _ p => ?_
  have S1 := S.step p.1 p.2.1
  have hd := p.2.2
  cases hd with
  | fn f =>
    refine Gw.bind (W1 := Wm X (spliced (backTo pos (starEach (e :: es) X.env))) s1) (K := fun us s2 Q => X.K.In s2.heap ∧ wpAny (model X.prog X.w) X.A (call (.ref (B.fa f)) us) Q X.xe s2) wm_mono
      (fun Q hq => PySem.W.callWith_K (h₀ := X.base) S1.inv.ok.mod.kin (hkeep f) hq he hpl) (ha pos pins O ρ s1 S1) fun ds us s2 _ p2 => ?_
    have S2 := S1.step p2.1 p2.2.1
    exact ((run_f C S2 p2.2.2).later wm_mono (p.2.1.trans p2.2.1)).rule fun Q hq => ⟨S2.inv.kIn, hq⟩
  | _ => trivial
end
end Ev
namespace Ev
open PySem PySem.Spec PyProof.Rows L2
section
variable {B : Bk} {X : Cx} {N : List Str} {F : Fx} {tp : Bool} {pins : List (Addr × Obj)} {Oc O O1 O2 : Addr → Prop} {A A' : Str → Addr} {ρ ρ' : List Sl} {s s1 s2 s' : Shared} {pos p2 np : Pos} {e : Expr} {es : List Expr} {x : Ev.X} {xs : List Ev.X} {ts : List Str}
theorem ss_raise {c : Nat} {e : Expr} (hc : X.calm = true) (hm : PMk X e (fun _ H Q => Q (.ref (B.ca c)) none H)) : SS tp B X N F (.Raise (some e) none pos) (.raise c) := by
  intro pins Oc A ρ s S hol
  intro hx
  have h := (ps_raise (pos := pos) hc hx hm).run pins s [] X.H_0 { nx := fun _ _ => False, rt := fun _ _ => False } S.inv ⟨rfl, rfl, rfl⟩
  refine wpAny_mono h (fun f s' z => ?_) fun _ _ z => z
  cases f with
  | next => obtain ⟨_, _, _, q⟩ := z; exact q
  | brk => obtain ⟨_, _, _, q⟩ := z; exact q
  | cont => obtain ⟨_, _, _, q⟩ := z; exact q
  | ret u => obtain ⟨_, _, _, _, _, q⟩ := z; exact q
theorem Sts.toTry (S : Sts B X pins Oc N A ρ s) (xe : Value → Shared → Prop) : Sts B (X.tr (X.pn ++ pins) xe) [] Oc N A ρ s :=
  ⟨S.inv.toTry xe, S.tk, S.fr, S.dom, S.dat, fun x d hx e => by
    obtain ⟨h1, h2, h3, h4⟩ := S.own x d hx e
    refine ⟨h1, ⟨h2.1, h2.2.1, h2.2.2.1, h2.2.2.2.1, h2.2.2.2.2.1, fun p hp => h2.2.2.2.2.2 p ?_⟩, h3, h4⟩
    rw [List.append_nil] at hp
    exact hp, S.inj⟩
theorem Sts.ofTry {xe : Value → Shared → Prop} (S : Sts B (X.tr (X.pn ++ pins) xe) [] Oc N A ρ s) (ok : X.Ok) : Sts B X pins Oc N A ρ s :=
  ⟨S.inv.ofTry ok, S.tk, S.fr, S.dom, S.dat, fun x d hx e => by
    obtain ⟨h1, h2, h3, h4⟩ := S.own x d hx e
    exact ⟨h1, ⟨h2.1, h2.2.1, h2.2.2.1, h2.2.2.2.1, h2.2.2.2.2.1, fun p hp => h2.2.2.2.2.2 p (List.mem_append_left _ hp)⟩, h3, h4⟩, S.inj⟩
theorem ss_try {c i : Nat} {n nm : Str} {body suite : List Stmt} {b₀ : Stmt} {pos' : Pos} {xb xh : List Ev.S} (hs : X.stack = X.env :: X.outer) (hf : X.env.frame = some X.env.locals) (hex0 : X.ex = []) (hln : X.env.scope.names.lookup n = some .local) (hnN : n ∈ N) (hi : ix n N = i) (hnm : Names X nm (.ref (B.ca c)))
    (hex : ∀ c', c' < B.nc → PySem.W.exmOne X.K (.ref (B.ca c')) (.ref (B.ca c)) = some (F.sub c' c)) (hnc : F.nc = B.nc)
    (hb : ∀ (pn : List (Addr × Obj)) (xe : Value → Shared → Prop), SSs tp B (X.tr pn xe) N F body xb)
    (hsu : ∀ (a : Addr) (oe : Obj) (pn : List (Addr × Obj)), SSs tp B (X.suite a ((a, oe) :: pn)) N F (b₀ :: suite) xh) (htp : tp = true) :
    SS tp B X N F (.Try body [.ExceptHandler (some (.Name nm np)) (some n) (b₀ :: suite) pos'] [] [] pos) (.try_ xb c i xh) := by
  intro pins Oc A ρ s S hol
  subst hi
  have ok := S.inv.ok
  have hfr : X.A.frames = some (X.env :: X.outer) := by rw [ok.frames, hs]
  show So B X pins Oc N A ρ s _ (match Ev.execs F xb ρ with
      | .err c' => match Nat.blt c' F.nc with
          | true => match F.sub c' c with
              | true => match Ev.execs F xh ((List.replicate ρ.length .un).set (ix n N) (.dat (.exc c'))) with
                  | .ret d => .ret d
                  | _ => .stuck
              | false => .err c'
          | false => .stuck
      | o => o)
  -- the body, whatever is wished behind it
  have go : ∀ (Q : Flow → Shared → Prop) (E : Value → Shared → Prop), (∀ e s₁, E e s₁ → s.toks ≤ s₁.toks → wpAny (model X.prog X.w) X.A (noteFrame e X.env) (fun _ s₂ => wpAny (model X.prog X.w) X.A (setFlight e none) (fun _ s₃ =>
      wpAny (model X.prog X.w) X.A (handleBy e X.env [.ExceptHandler (some (.Name nm np)) (some n) (b₀ :: suite) pos']) Q X.xe s₃) X.xe s₂) X.xe s₁) →
      wpAny (model X.prog X.w) X.A (PySem.execs body X.env) Q E s → Wm X (PySem.exec (.Try body [.ExceptHandler (some (.Name nm np)) (some n) (b₀ :: suite) pos'] [] [] pos) X.env) s Q := fun Q E hE h => by
    refine wpAny_Try_except (wpAny_with_toks (n := s.toks) (Nat.le_refl _) (wpAny_mono h (fun f s1 q _ => ?_) fun e s1 he ht => hE e s1 he ht))
    cases f with
    | next => exact wpAny_execs_nil q
    | brk => exact q
    | cont => exact q
    | ret u => exact q
  have hbody := fun xe => hb (X.pn ++ pins) xe [] Oc A ρ s (S.toTry xe) hol
  cases eo : Ev.execs F xb ρ with
  | stuck => trivial
  | next ρ' =>
    have h := hbody (fun _ _ => False)
    rw [eo] at h
    exact go _ (fun _ _ => False) (fun _ _ z => z.elim) (thn h fun f s' ⟨q, A', S', l⟩ => ⟨q, A', S'.ofTry ok, l⟩)
  | brk ρ' =>
    have h := hbody (fun _ _ => False)
    rw [eo] at h
    exact go _ (fun _ _ => False) (fun _ _ z => z.elim) (thn h fun f s' ⟨q, A', S', l⟩ => ⟨q, A', S'.ofTry ok, l⟩)
  | ret d =>
    have h := hbody (fun _ _ => False)
    rw [eo] at h
    exact go _ (fun _ _ => False) (fun _ _ z => z.elim) (thn h fun f s' ⟨u, q, J, t, hd⟩ => ⟨u, q, J.ofTry ok, t, hd⟩)
  | err c' =>
    show So B X pins Oc N A ρ s _ (match Nat.blt c' F.nc with
          | true => match F.sub c' c with
              | true => match Ev.execs F xh ((List.replicate ρ.length .un).set (ix n N) (.dat (.exc c'))) with
                  | .ret d => .ret d
                  | _ => .stuck
              | false => .err c'
          | false => .stuck)
    cases ec' : Nat.blt c' F.nc with
    | false => trivial
    | true =>
    have hc' : c' < B.nc := by
      rw [← hnc]
      exact Nat.lt_of_lt_of_le (Nat.lt_succ_self _) (Nat.le_of_ble_eq_true ec')
    -- the exception as it comes
    have catch_ : ∀ (Q : Flow → Shared → Prop), (∀ (a : Addr) (B' : Heap) (sI s' : Shared) (h3 : Heap), Inv X pins [] X.H_0 sI → (∀ b o, sI.heap.get? b = some o → b ∉ frs X.stack → B'.get? b = some o) → sI.heap.UpToSlots s'.heap → s'.heap.UpToSlots h3 → s'.os = sI.os → AllBare s'.gens → X.H_0 a = none → s.toks ≤ s'.toks →
        HandSPX.FlyingZ B' (X.env :: X.outer) a (Zc (.ref (B.ca c')) none) h3 → wpAny (model X.prog X.w) X.A (handleBy (.ref a) X.env [.ExceptHandler (some (.Name nm np)) (some n) (b₀ :: suite) pos']) Q X.xe { s' with heap := h3 }) →
        Wm X (PySem.exec (.Try body [.ExceptHandler (some (.Name nm np)) (some n) (b₀ :: suite) pos'] [] [] pos) X.env) s Q := fun Q hQ => by
      have h := hbody (fun e s₁ => s.toks ≤ s₁.toks → wpAny (model X.prog X.w) X.A (noteFrame e X.env) (fun _ s₂ => wpAny (model X.prog X.w) X.A (setFlight e none) (fun _ s₃ =>
        wpAny (model X.prog X.w) X.A (handleBy e X.env [.ExceptHandler (some (.Name nm np)) (some n) (b₀ :: suite) pos']) Q X.xe s₃) X.xe s₂) X.xe s₁)
      rw [eo] at h
      refine go Q _ (fun e s₁ he ht => he ht) (thn (h fun u s' xx => ?_) fun f s' z => z.elim)
      intro ht
      obtain ⟨a, B', sI, pins', σ', H', cls, d, rfl, J', nb, up, sky, na, os, ag, ecls, ed, eH⟩ := xx
      subst ecls ed eH
      have eσ : σ' = [] := List.eq_nil_of_length_eq_zero (by
        have h1 := J'.len
        have h2 := S.inv.len
        rw [h1]
        exact h2.symm)
      subst eσ
      have J : Inv X pins [] X.H_0 sI := J'.ofTry ok
      have sky' : Sky B' (X.env :: X.outer) a (Zc (.ref (B.ca c')) none) X.env.locals s'.heap := by rw [← hs]; exact sky
      refine Sky.land Zc.steady hfr hf sky' fun h3 fl3 up3 => ?_
      exact hQ a B' sI s' h3 J nb up up3 os ag na ht fl3
    have exm := hex c' hc'
    -- its object, its clause
    have look : ∀ {a : Addr} {B' : Heap} {h3 : Heap}, HandSPX.FlyingZ B' (X.env :: X.outer) a (Zc (.ref (B.ca c')) none) h3 → ∃ oe vs, h3.get? a = some oe ∧ Zc (.ref (B.ca c')) none oe ∧ oe.data = .fields vs ∧ a ≠ X.env.locals ∧ a ∉ X.fs ∧ a ∉ frs X.stack ∧ B'.get? a = none := fun {a B' h3} fl => by
      obtain ⟨oe3, vs3, he3, hz3, hd3⟩ := fl.there
      have nfr : a ∉ frs (X.env :: X.outer) := fun hm => by
        obtain ⟨_, o', e', hnf⟩ := fl.2.2.1.mem hm
        rw [he3] at e'; cases e'
        exact hnf _ hd3
      refine ⟨oe3, vs3, he3, hz3, hd3, fun z => nfr (List.mem_filterMap.mpr ⟨X.env, List.mem_cons_self, by rw [hf, z]⟩), fun hm => ?_, by rw [hs]; exact nfr, fl.2.1⟩
      obtain ⟨e, he, q⟩ := List.mem_filterMap.mp hm
      exact nfr (List.mem_filterMap.mpr ⟨e, List.mem_cons_of_mem _ he, q⟩)
    show So B X pins Oc N A ρ s _ (match F.sub c' c with
          | true => match Ev.execs F xh ((List.replicate ρ.length .un).set (ix n N) (.dat (.exc c'))) with
              | .ret d => .ret d
              | _ => .stuck
          | false => .err c')
    have test : ∀ {a : Addr} {oe : Obj} {vs : Array Value} {st : Shared} {Q : Value → Shared → Prop} {E : Value → Shared → Prop}, Inv X pins [] X.H_0 st → st.heap.get? a = some oe → oe.data = .fields vs → X.H_0 a = none → a ≠ X.env.locals → a ∉ X.fs → Q (.ref (B.ca c)) st →
        wpAny (model X.prog X.w) (X.A.mark (some (.ref a))) (eval (.Name nm np) X.env) Q E st := fun {a oe vs st Q E} J ha hd na nL nF q => by
      have S3 := J.suite ha hd na nL nF
      obtain ⟨hg, hdbg, hm | ⟨hm, hv, hnn⟩⟩ := hnm
      · exact ld_glob (X := X.suite a ((a, oe) :: (X.pn ++ pins))) S3 hg hm q hdbg
      · exact ld_blt (X := X.suite a ((a, oe) :: (X.pn ++ pins))) S3 hg hm hv q hnn hdbg
    cases esub : F.sub c' c with
    | false =>
      rw [esub] at exm
      show Xc B X c' → _
      intro hx
      refine catch_ _ fun a B' sI s' h3 J nb up up3 os ag na ht fl3 => ?_
      obtain ⟨oe3, vs3, he3, hz3, hd3, nL, nF, nst, nB⟩ := look fl3
      have J3 : Inv X pins [] X.H_0 { s' with heap := h3 } := J.landed nb fl3.1 (up.trans up3) os ag
      refine wpAny_handleBy_cons (codeAny_handlers_test ?_) (by intro q; cases q)
      have LT : PySem.W.Looks (model X.prog X.w) h3 (typeOf (.ref a)) (.ref (B.ca c')) := fun A Q E s k q => wpAny_typeOf_ref (k _ _ he3) (by rw [hz3.1]; exact q)
      have LM := PySem.W.exm_one (M := model X.prog X.w) (J3.kIn) LT exm
      refine test J3 he3 hd3 na nL nF (LM.here ?_)
      show wpAny _ X.A (handleBy (.ref a) X.env []) _ _ _
      refine wpAny_handleBy_nil ?_
      obtain ⟨k1, k2, k3, oe, vs, T, oT, ts', he, hz, hd, h1, hr⟩ := id fl3
      unfold PySem.passOn
      refine wpAny_bind (wpAny_field he hd h1 ?_)
      rw [if_neg (show ¬ ((Value.ref T == Value.none) = true) from by simp)]
      have fin : wpAny (model X.prog X.w) X.A (setFlight (.ref a) X.env.frame) (fun _ s4 => wpAny (model X.prog X.w) X.A (throw (.ref a) : Sem Flow) (fun _ _ => False) X.xe s4) X.xe { s' with heap := h3 } := by
        rw [hf]
        refine HandSPX.setFlight_upZ fl3 fun h4 hh4 up4 => wpAny_throw (hx _ _ ?_)
        exact ⟨a, B', sI, pins, [], X.H_0, _, _, rfl, J, nb, (up.trans up3).trans up4, .inr (.inr (by rw [hs]; exact hh4)), na, os, ag, rfl, rfl, rfl⟩
      first
        | exact wpAny_bind (wpAny_pure (wpAny_bind fin))
        | exact wpAny_bind fin
    | true =>
      rw [esub] at exm
      show So B X pins Oc N A ρ s _ (match Ev.execs F xh ((List.replicate ρ.length .un).set (ix n N) (.dat (.exc c'))) with
              | .ret d => .ret d
              | _ => .stuck)
      cases eh : Ev.execs F xh ((List.replicate ρ.length .un).set (ix n N) (.dat (.exc c'))) with
      | ret d =>
        refine catch_ _ fun a B' sI s' h3 J nb up up3 os ag na ht fl3 => ?_
        obtain ⟨oe3, vs3, he3, hz3, hd3, nL, nF, nst, nB⟩ := look fl3
        have J3 : Inv X pins [] X.H_0 { s' with heap := h3 } := J.landed nb fl3.1 (up.trans up3) os ag
        refine wpAny_handleBy_cons (codeAny_handlers_test ?_) (by intro q; cases q)
        have LT : PySem.W.Looks (model X.prog X.w) h3 (typeOf (.ref a)) (.ref (B.ca c')) := fun A Q E s k q => wpAny_typeOf_ref (k _ _ he3) (by rw [hz3.1]; exact q)
        have LM := PySem.W.exm_one (M := model X.prog X.w) (J3.kIn) LT exm
        refine test J3 he3 hd3 na nL nF (LM.here ?_)
        refine codeAny_handlers_suite_as ?_
        refine HandSPX.lands_againZ fl3 fun h4 fl4 up4 => ?_
        have J4 : Inv X pins [] X.H_0 { s' with heap := h4 } := J.landed nb fl4.1 ((up.trans up3).trans up4) os ag
        obtain ⟨oe4, vs4, he4, hz4, hd4, _⟩ := look fl4
        have S4 := J4.suite he4 hd4 na nL nF
        have nx : ∀ b, b ∉ X.ex := fun b z => by rw [hex0] at z; cases z
        have nOc : ¬ Oc a := fun z => by
          obtain ⟨o, e⟩ := hol htp a z
          obtain ⟨o', e'⟩ := J.base.there a o e (nx a)
          have := nb a o' e' nst
          rw [nB] at this
          cases this
        have nZ : ¬ Zx X a := by
          rintro (z | ⟨y, e1, _⟩)
          · exact nL z
          · obtain ⟨v, oc, e2, e3⟩ := J4.cell y a e1
            have e2 : h4.get? a = some oc := e2
            rw [he4] at e2; cases e2
            rw [hd4] at e3; cases e3
        have st : Ste B (X.suite a ((a, oe4) :: (X.pn ++ pins))) [] (fun b => Oc b ∨ Zx X b) N (List.replicate ρ.length .un) { s' with heap := h4 } := by
          refine ⟨S4, Nat.le_trans S.tk ht, fun b hb => ?_, fun b hb => ?_, ?_⟩
          · rcases List.mem_cons.mp hb with q | q
            · exact .inr (.inl q)
            · exact .inl (S.fr b q)
          · rcases hb with z | z
            · obtain ⟨o, e⟩ := hol htp b z
              exact J4.base.there b o e (nx b)
            · exact z.obj J4
          · obtain ⟨m, hn, _⟩ := S4.loc
            refine ⟨m, hn, fun y d hy e v => ?_⟩
            rw [List.getElem?_replicate] at e
            split at e <;> cases e
        have dv : DV B (fun b => Oc b ∨ Zx X b) h4 s'.toks (.ref a) (.exc c') := .exc (fun z => z.elim nOc nZ) he4 ⟨hz4.1, hz4.2, ⟨_, hd4⟩, hc'⟩
        refine thn (store_dat (X := X.suite a ((a, oe4) :: (X.pn ++ pins))) st (.inl hln) hnN (fun c e k => absurd (k.symm.trans hln) (by simp)) dv) fun _ s5 ⟨S5, w, _⟩ => ?_
        have noown : ∀ {y : Str} {d : D}, ((List.replicate ρ.length Sl.un).set (ix n N) (.dat (.exc c')))[ix y N]? = some (.own d) → False := fun {y d} e => by
          obtain ⟨h1, _⟩ := set_own hnN e
          rw [List.getElem?_replicate] at h1
          split at h1 <;> cases h1
        have T5 : Sts B (X.suite a ((a, oe4) :: (X.pn ++ pins))) [] Oc N (fun _ => 0) ((List.replicate ρ.length .un).set (ix n N) (.dat (.exc c'))) s5 := by
          refine ⟨S5.inv, S5.tk, S.fr, fun b hb => S5.dom b (.inl hb), fun y d hy e v => ?_, fun y d hy e => (noown e).elim, fun y z d d' hy hz e => (noown e).elim⟩
          obtain ⟨m, hn, he⟩ := S5.env
          obtain ⟨u, hl, hd⟩ := he y d hy e v
          refine ⟨u, ⟨m, hn, hl⟩, hd.mono (fun _ _ _ e => e) (Nat.le_refl _) fun b z => ?_⟩
          rcases z with z | z | ⟨y', d', _, e', _⟩
          · exact .inl z
          · exact .inr z
          · exact (noown e').elim
        have hh := hsu a oe4 (X.pn ++ pins) [] Oc (fun _ => 0) _ s5 T5 hol
        rw [eh] at hh
        refine wpAny_mono hh (fun f s6 ⟨u, q, J6, t6, d6⟩ => ?_) fun _ _ z => z.elim
        subst q
        have J7 : Inv X pins [] X.H_0 s6 := J6.unsuite ok
        obtain ⟨m, hn, _⟩ := id J7.loc
        have hcls : (X.env.scope.kind == .class || (X.env.scope.kind == .module && X.env.locals != X.env.globals)) = false := by rw [ok.kind]; rfl
        refine wpAny_nameGoes_keeps hln hn hcls fun h' v hn' hs' => ?_
        have tq : s.toks ≤ s6.toks := by
          obtain ⟨_, _, _, q, _⟩ := w
          exact Nat.le_trans ht (Nat.le_trans q t6)
        refine ⟨u, rfl, Inv.wrote (a := X.env.locals) J7 hs' rfl rfl J7.ok.above J7.free ⟨_, hn'⟩ (fun y c e => let ⟨w', z⟩ := J7.cell y c e; ⟨w', z.sameBut hs' (J7.cne y c e)⟩) fun p hp => (J7.pin p hp).2.2.1, ?_, d6.mono (fun b o no e => (hs'.2 b fun z => no (.inr (.inl z))).trans e) ?_ fun _ z => z⟩
        · first | exact tq | exact Nat.le_succ_of_le tq | exact Nat.le_trans tq (Nat.le_add_right _ _)
        · first | exact Nat.le_refl _ | exact Nat.le_succ _ | exact Nat.le_add_right _ _
      | _ => trivial
end
end Ev
namespace Ev
open PySem PySem.Spec PyProof.Rows L2
def keyV : Value → Key
  | .int k _ => .inl k
  | .str x _ => .inr x
  | _ => .inl 0
theorem keyV_of {k : Key} {v : Value} (h : keyIs k v = true) : keyV v = k := by
  rcases keyIs_shape h with ⟨i, t, rfl, rfl⟩ | ⟨x, t, rfl, rfl⟩ <;> rfl
theorem scan_of {k : Key} {v : Value} (h : keyIs k v = true) : v.scannable = true := by
  rcases keyIs_shape h with ⟨i, t, rfl, rfl⟩ | ⟨x, t, rfl, rfl⟩ <;> rfl
theorem paired_get {α β : Type} {R : α → β → Prop} : ∀ {xs : List α} {ys : List β} {i : Nat} {y : β}, Paired R xs ys → ys[i]? = some y → ∃ x, xs[i]? = some x ∧ R x y
  | _, _, _, _, .nil, e => by simp at e
  | _, _, 0, _, .cons h _, e => by
    simp at e
    subst e
    exact ⟨_, rfl, h⟩
  | _, _, i + 1, y, .cons _ t, e => by
    obtain ⟨x, h1, h2⟩ := paired_get (i := i) (y := y) t (by simpa using e)
    exact ⟨x, by simpa using h1, h2⟩
def keyE (e : Int × Value) : Key := keyV e.2
def GoodK (w : World) (e : Int × Value) : Prop := ∃ k : Key, keyIs k e.2 = true ∧ e.1 = keyH w k
def SetRk (w : World) (El : Value → Prop) (h : Heap) (a : Addr) (L : List Key) : Prop :=
  ∃ o es ep t, h.get? a = some o ∧ o.ExactSet ∧ o.data = .set es ep t ∧ (∀ e ∈ es.toList, GoodK w e ∧ El e.2) ∧ (es.toList.map keyE).Perm L ∧ L.Nodup ∧
    es.size < scanBound ∧ t.fits es.size = true ∧ Ris t.place.toList ∧ (w.params.followText "set-order" = true ∨ t.led = true)
section
variable {P : Program} {w : World} {El El' : Value → Prop} {h h' : Heap} {a : Addr} {L : List Key}
theorem SetRk.at (R : SetRk w El h a L) (k : ∀ o, h.get? a = some o → h'.get? a = some o) : SetRk w El h' a L := by
  obtain ⟨o, es, ep, t, ho, r⟩ := R
  exact ⟨o, es, ep, t, k o ho, r⟩
theorem SetRk.imp (R : SetRk w El h a L) (q : ∀ v, El v → El' v) : SetRk w El' h a L := by
  obtain ⟨o, es, ep, t, h1, h2, h3, h4, r⟩ := R
  exact ⟨o, es, ep, t, h1, h2, h3, fun e he => ⟨(h4 e he).1, q _ (h4 e he).2⟩, r⟩
theorem goodk_elems {l : List (Int × Value)} (g : ∀ e ∈ l, GoodK w e) : ElemsOf (mixKind P w) l := fun e he => by
  obtain ⟨k, h1, h2⟩ := g e he
  exact ⟨⟨k, h1, h2⟩, by
    have := scan_of h1
    exact this⟩
theorem goodk_is {e : Int × Value} (g : GoodK w e) (k : Key) : (mixKind P w).is k e.2 = true ↔ keyE e = k := by
  obtain ⟨k0, h1, _⟩ := g
  unfold keyE
  constructor
  · intro q
    exact keyV_of q
  · intro q
    rw [keyV_of h1] at q
    subst q
    exact h1
theorem goodk_mem {l : List (Int × Value)} (g : ∀ e ∈ l, GoodK w e) (k : Key) : k ∈ l.map keyE ↔ ∃ e ∈ l, (mixKind P w).is k e.2 = true := by
  rw [List.mem_map]
  constructor
  · rintro ⟨e, he, q⟩
    exact ⟨e, he, (goodk_is (g e he) k).2 q⟩
  · rintro ⟨e, he, q⟩
    exact ⟨e, he, (goodk_is (g e he) k).1 q⟩
end
section
variable {P : Program} {w : World} {El El' : Value → Prop} {A : Around} {E : Value → Shared → Prop} {s : Shared} {a : Addr} {L : List Key}
theorem setRk_add_tail {g : Bool → Sem Unit} (hg : ∀ (b : Bool) (s₁ : Shared) (Q' : Unit → Shared → Prop), Q' () s₁ → wpAny (model P w) A (g b) Q' E s₁)
    {o : Obj} {es : Array (Int × Value)} {ep : Nat} {t : SetTable} (ho : s.heap.get? a = some o) (hex : o.ExactSet) (hd : o.data = .set es ep t)
    {es1 : Array (Int × Value)} {t2 : SetTable} {L' : List Key} (g1 : ∀ e ∈ es1.toList, GoodK w e ∧ El e.2) (p1 : (es1.toList.map keyE).Perm L') (nd1 : L'.Nodup)
    (hb1 : es1.size < scanBound) (hf2 : t2.fits es1.size = true) (hr : Ris t2.place.toList) (hl : w.params.followText "set-order" = true ∨ t2.led = true) {wasDummy : Bool} {R : Option Bool → Shared → Prop}
    (hR : ∀ h', Heap.SameBut a s.heap h' → SetRk w El h' a L' → R (some true) { s with heap := h' }) :
    wpAny (model P w) A (do
        storeSet a es1 t2
        if (!wasDummy && t2.tooFull) = true then do
            g (relayAll t2 es1 (SetTable.grown es1.size)).2.2
            storeSet a (relayAll t2 es1 (SetTable.grown es1.size)).1 (relayAll t2 es1 (SetTable.grown es1.size)).2.1
            pure (some true)
          else pure (some true)) R E s := by
  refine wpAny_bind (wpAny_storeSet_of ho hd ?_ (fits_of_scanBound hb1))
  have ho1 := store_at (es' := es1) (t' := t2) ho hd
  have sb1 := Heap.SameBut.update s.heap a (Obj.putSet es1 t2)
  split
  · have pm := relayAll_perm t2 es1 (SetTable.grown es1.size)
    have hf3 := relayAll_fits t2 es1 (SetTable.grown es1.size)
    have hr3 := relayAll_ris t2 es1 (SetTable.grown es1.size)
    have hl3 := relayAll_led t2 es1 (SetTable.grown es1.size)
    generalize relayAll t2 es1 (SetTable.grown es1.size) = Z at pm hf3 hr3 hl3 ⊢
    obtain ⟨es2, t3, gave⟩ := Z
    dsimp only at pm hf3 hr3 hl3 ⊢
    have hsz : es2.size = es1.size := by rw [← Array.length_toList, pm.length_eq, Array.length_toList]
    have hb2 : es2.size < scanBound := by rw [hsz]; exact hb1
    refine wpAny_bind (hg _ _ _ ?_)
    refine wpAny_bind (wpAny_storeSet_of ho1 rfl ?_ (fits_of_scanBound hb2))
    have ho2 := store_at (es' := es2) (t' := t3) ho1 rfl
    refine wpAny_pure (hR _ (sb1.trans (Heap.SameBut.update _ a _)) ?_)
    exact ⟨_, es2, _, t3, ho2, hex, rfl, fun e he => g1 e (pm.mem_iff.mp he), (pm.map keyE).trans p1, nd1, hb2, hf3, hr3,
      hl.imp id fun z => by rw [hl3]; exact z⟩
  · exact wpAny_pure (hR _ sb1 ⟨_, es1, _, t2, ho1, hex, rfl, g1, p1, nd1, hb1, hf2, hr, hl⟩)
instance memKey (k : Key) (L : List Key) : Decidable (k ∈ L) := decidable_of_iff (L.any (fun j => decide (j = k)) = true) (by simp)
def addK (L : List Key) (k : Key) : List Key := if k ∈ L then L else k :: L
theorem setRk_add_hashed {k : Key} {v : Value} (hkey : keyIs k v = true) (hEl : El v) {Q : Bool → Shared → Prop} (R : SetRk w El s.heap a L) (room : L.length + 1 < scanBound)
    (hQ : ∀ h' b, Heap.SameBut a s.heap h' → SetRk w El h' a (addK L k) → Q b { s with heap := h' }) :
    wpAny (model P w) A (setAddHashed a v ((mixKind P w).hash k)) Q E s := by
  obtain ⟨o, es, ep, t, ho, hex, hd, g, pL, nd, hb, hf, hr, hl⟩ := R
  have hkey' : (mixKind P w).is k v = true := hkey
  have hsc : v.scannable = true := scan_of hkey
  have g0 : ∀ e ∈ es.toList, GoodK w e := fun e he => (g e he).1
  have hel : ElemsOf (mixKind P w) es.toList := goodk_elems g0
  have hn : es.size = L.length := by rw [← pL.length_eq, List.length_map, Array.length_toList]
  unfold setAddHashed setAddHashedIn
  refine wpAny_holding (wpAny_bind (wpAny_setState_of ho hd hf ?_))
  dsimp only
  rw [byScan_of hsc hb hel]
  simp only [↓reduceIte]
  unfold setAddByScan
  refine wpAny_bind ?_
  refine wpAny_bind (wpAny_rule ?_)
  refine wpAny_bind (wpAny_setScan_of hkey' ho hd hf hel ?_)
  cases hfi : List.findIdx? (fun e => (mixKind P w).is k e.2) es.toList with
  | some j =>
    dsimp only
    obtain ⟨hj, pj, _⟩ := List.findIdx?_eq_some_iff_getElem.mp hfi
    have hSk : k ∈ L := pL.mem_iff.mp ((goodk_mem (P := P) (w := w) g0 k).2 ⟨es.toList[j], List.getElem_mem hj, pj⟩)
    refine wpAny_pure (wpAny_pure ?_)
    exact hQ s.heap _ (Heap.SameBut.refl a s.heap) ⟨o, es, ep, t, ho, hex, hd, g, by unfold addK; rw [if_pos hSk]; exact pL, by unfold addK; rw [if_pos hSk]; exact nd, hb, hf, hr, hl⟩
  | none =>
    dsimp only
    have hnk : k ∉ es.toList.map keyE := fun z => by
      obtain ⟨e, he, q⟩ := (goodk_mem (P := P) (w := w) g0 k).1 z
      have c := List.findIdx?_eq_none_iff.mp hfi e he
      rw [q] at c
      cases c
    have hnL : k ∉ L := fun z => hnk (pL.mem_iff.mpr z)
    have hgw : ∀ (b : Bool) {s₁ : Shared} {Q' : Unit → Shared → Prop}, Q' () s₁ → wpAny (model P w) A (match b with | true => rule "set.scan.the-table-gave-way" | false => pure ()) Q' E s₁ :=
      fun b s₁ Q' q => by cases b <;> first | exact wpAny_pure q | exact wpAny_rule q
    have pm := layNew_perm t es ((mixKind P w).hash k) v
    have hf1 := layNew_fits t es ((mixKind P w).hash k) v
    have hr1 := layNew_ris t es ((mixKind P w).hash k) v hr
    have hl1 := layNew_led t es ((mixKind P w).hash k) v
    generalize layNew t es ((mixKind P w).hash k) v = Z at pm hf1 hr1 hl1 ⊢
    obtain ⟨es1, t1, wasDummy, gave⟩ := Z
    dsimp only at pm hf1 hr1 hl1 ⊢
    rw [Array.toList_push] at pm
    have pc : es1.toList.Perm (((mixKind P w).hash k, v) :: es.toList) := pm.trans (List.perm_append_singleton _ _)
    have pk : (es1.toList.map keyE).Perm (k :: es.toList.map keyE) := by
      have q := pc.map keyE
      rw [List.map_cons] at q
      have e : keyE ((mixKind P w).hash k, v) = k := keyV_of hkey
      rw [e] at q
      exact q
    have p1 : (es1.toList.map keyE).Perm (addK L k) := by
      unfold addK
      rw [if_neg hnL]
      exact pk.trans (pL.cons k)
    have g1 : ∀ e ∈ es1.toList, GoodK w e ∧ El e.2 := fun e he => by
      rcases List.mem_cons.mp (pc.mem_iff.mp he) with z | z
      · rw [z]; exact ⟨⟨k, hkey, rfl⟩, hEl⟩
      · exact g e z
    have nd1 : (addK L k).Nodup := by
      unfold addK
      rw [if_neg hnL]
      exact List.nodup_cons.mpr ⟨hnL, nd⟩
    have hsz : es1.size = L.length + 1 := by rw [← Array.length_toList, pc.length_eq, List.length_cons, Array.length_toList, hn]
    have hb1 : es1.size < scanBound := by rw [hsz]; exact room
    have hled : w.params.followText "set-order" = true ∨ t1.led = true := hl.imp id fun z => by rw [hl1]; exact z
    have fin : ∀ h', Heap.SameBut a s.heap h' → SetRk w El h' a (addK L k) → Q true { s with heap := h' } := fun h' sb r => hQ h' true sb r
    refine wpAny_bind (hgw _ ?_)
    split
    · refine wpAny_bind ?_
      rw [hashByValue_scannable 8 hsc]
      refine wpAny_pure ?_
      refine setRk_add_tail ?_ ho hex hd g1 p1 nd1 hb1 ?_ ?_ ?_ ?_
      · intro b s₁ Q' q; cases b <;> first | exact wpAny_pure q | exact wpAny_rule q
      · first | (split <;> first | exact hf1 | exact SetTable.fits_plain_off hf1) | exact hf1
      · first | (split <;> exact hr1) | exact hr1
      · first | (split <;> exact hled) | exact hled
      · intro h' sb r; dsimp only; exact wpAny_pure (fin h' sb r)
    · refine wpAny_bind (wpAny_pure ?_)
      simp only [↓reduceIte]
      refine setRk_add_tail ?_ ho hex hd g1 p1 nd1 hb1 hf1 hr1 hled ?_
      · intro b s₁ Q' q; cases b <;> first | exact wpAny_pure q | exact wpAny_rule q
      · intro h' sb r; dsimp only; exact wpAny_pure (fin h' sb r)
theorem setRk_fresh {h : Heap} {a : Addr} (ho : h.get? a = some { cls := .type "set", dict := none, data := .set #[] 0 (.fresh 0 0 (!w.params.followText "set-order")) }) : SetRk w El h a [] :=
  ⟨_, #[], 0, _, ho, ⟨rfl, rfl, rfl⟩, rfl, (fun e he => by simp at he), (by simp), (by simp), (by decide), (by rfl), List.Pairwise.nil, by
    show _ ∨ (!w.params.followText "set-order") = true
    cases w.params.followText "set-order"
    · exact .inr rfl
    · exact .inl rfl⟩
theorem addK_len (L : List Key) (k : Key) : (addK L k).length ≤ L.length + 1 := by
  unfold addK
  split
  · omega
  · simp
theorem foldK_len : ∀ (ks L : List Key), (ks.foldl addK L).length ≤ L.length + ks.length
  | [], L => by simp
  | k :: ks, L => by
    have h1 := foldK_len ks (addK L k)
    have h2 := addK_len L k
    simp only [List.foldl_cons, List.length_cons]
    omega
/-- an iterator, its items with tokens -/
structure WN (prog : Program) (w : World) (A : Around) (I : Addr) (fp wr : List Addr) (n : Nat) (Y : Nat → Value → Nat → Prop) (st : Nat → Heap → Prop) : Prop where
  sub : ∀ b ∈ wr, b ∈ fp
  frame : ∀ i h h', st i h → (∀ b ∈ fp, ∀ o, h.get? b = some o → h'.get? b = some o) → st i h'
  item : ∀ i (s : Shared) (Q : Option Value → Shared → Prop) (E : Value → Shared → Prop), i < n → st i s.heap → 1 ≤ s.toks →
    (∀ v h' tk, Y i v tk → st (i + 1) h' → (∀ b o, b ∉ wr → s.heap.get? b = some o → h'.get? b = some o) → s.toks ≤ tk → Q (some v) { s with heap := h', toks := tk }) → wpAny (model prog w) A (pyNext (.ref I)) Q E s
  done : ∀ (s : Shared) (Q : Option Value → Shared → Prop) (E : Value → Shared → Prop), st n s.heap →
    (∀ h' tk, (∀ b o, b ∉ wr → s.heap.get? b = some o → h'.get? b = some o) → s.toks ≤ tk → Q none { s with heap := h', toks := tk }) → wpAny (model prog w) A (pyNext (.ref I)) Q E s
theorem WN.of {I : Addr} {fp wr : List Addr} {n : Nat} {Y : Nat → Value → Prop} {st : Nat → Heap → Prop} (W : Walks P w A I fp wr n Y st) : WN P w A I fp wr n (fun i v _ => Y i v) st :=
  ⟨W.sub, W.frame, fun i s Q E hi hst _ hQ => wpAny_with_toks (n := s.toks) (Nat.le_refl _) (W.item i s _ _ hi hst fun v h' tk hP st' hk htk => hQ v h' tk hP st' hk htk),
    fun s Q E hst hQ => wpAny_with_toks (n := s.toks) (Nat.le_refl _) (W.done s _ _ hst fun h' tk hk htk => hQ h' tk hk htk)⟩
theorem WN.text (hh : A.handled = none) (I : Addr) (x : Str) (t : Tok) : WN P w A I [I] [I] x.cps.size (fun i v m => SignT x i v m) (fun i h => h.IsStrIter I (strIterType x) x t i) := by
  cases ha : x.cps.all (· < 128)
  · have ety : strIterType x = "str_iterator" := by simp [strIterType, ha]
    rw [ety]
    have W := Walks.strWide (prog := P) (w := w) (A := A) hh I x t
    refine ⟨W.sub, W.frame, fun i s Q E hi hst ht hQ => ?_, (WN.of W).done⟩
    exact wpAny_pyNext_wide_item hst (c := x.cps[i]) (by simp [hi]) fun h' hit' hs' => hQ _ h' (s.toks + 1) ⟨_, _, by simp [hi], rfl, ht, Nat.lt_succ_self _⟩ hit' (fun b o hb e => (hs'.2 b (by simpa using hb)).trans e) (Nat.le_succ _)
  · have ety : strIterType x = "str_ascii_iterator" := by simp [strIterType, ha]
    rw [ety]
    have W := Walks.strAscii (prog := P) (w := w) (A := A) hh I x t
    refine ⟨W.sub, W.frame, fun i s Q E hi hst ht hQ => ?_, (WN.of W).done⟩
    exact wpAny_pyNext_ascii_item hst (c := x.cps[i]) (by simp [hi]) fun h' hit' hs' => hQ _ h' (s.toks + 1) ⟨_, _, by simp [hi], rfl, ht, Nat.lt_succ_self _⟩ hit' (fun b o hb e => (hs'.2 b (by simpa using hb)).trans e) (Nat.le_succ _)
/-- the values' predicate, by the count of tokens -/
theorem set_update_keys {EL : Nat → Value → Prop} (hEL : ∀ n m v, n ≤ m → EL n v → EL m v) {I : Addr} {fp wr : List Addr} {n : Nat} {Y : Nat → Value → Nat → Prop} {st : Nat → Heap → Prop} {R : Result → Shared → Prop}
    (W : WN P w A.in1 I fp wr n Y st) (S : Addr) (hSf : S ∉ fp) (ns : List Key) (hn : n = ns.length) (hb : ns.length + 1 < scanBound) (hval : ∀ i v m, Y i v m → ∃ k, ns[i]? = some k ∧ keyIs k v = true ∧ EL m v) :
    ∀ (k i : Nat) (s : Shared), n - i = k → i ≤ n → st i s.heap → 1 ≤ s.toks → SetRk w (EL s.toks) s.heap S ((ns.take i).foldl addK []) →
      (∀ h' tk, (∀ b o, b ∉ S :: wr → s.heap.get? b = some o → h'.get? b = some o) → s.toks ≤ tk → SetRk w (EL tk) h' S (ns.foldl addK []) → R (.ok (.ret .none)) { s with heap := h', toks := tk }) →
      codeAny (model P w) A (.builtin "set.update.loop" ⟨[.ref S, .ref I], []⟩) R s := by
  have hSw : S ∉ wr := fun h => hSf (W.sub _ h)
  intro k
  induction k with
  | zero =>
    intro i s hk' hi hst ht hS hR
    have hin : i = n := by omega
    subst hin
    refine codeAny_builtin F.entry_set_update_loop ?_
    rw [Around.under_plainId F.plain_set_update_loop _]
    show wpAny _ A.in1 (pyNext (.ref I) >>= _) _ _ s
    refine wpAny_bind (W.done s _ _ hst fun h' tk hm htk => ?_)
    show wpAny _ A.in1 (ret Value.none) _ _ _
    have e : ns.take i = ns := List.take_of_length_le (by omega)
    rw [e] at hS
    exact wpAny_pure (hR h' tk (fun b o hb e => hm b o (fun z => hb (List.mem_cons_of_mem _ z)) e) htk ((hS.at fun o e => hm S o hSw e).imp fun v => hEL _ _ v htk))
  | succ k ih =>
    intro i s hk' hi hst ht hS hR
    have hlt : i < n := by omega
    refine codeAny_builtin F.entry_set_update_loop ?_
    rw [Around.under_plainId F.plain_set_update_loop _]
    show wpAny _ A.in1 (pyNext (.ref I) >>= _) _ _ s
    refine wpAny_bind (W.item i s _ _ hlt hst ht fun v h1 tk hP hst' hm htk => ?_)
    obtain ⟨z, hz, hkey, hel⟩ := hval i v tk hP
    have hS' : SetRk w (EL (tk + 1)) h1 S ((ns.take i).foldl addK []) := (hS.at fun o e => hm S o hSw e).imp fun v => hEL _ _ v (Nat.le_succ_of_le htk)
    show wpAny _ A.in1 (holding [v] (setAdd S v) >>= _) _ _ { s with heap := h1, toks := tk }
    refine wpAny_bind (wpAny_holding ?_)
    unfold setAdd
    refine wpAny_holding ?_
    have hroom : ((ns.take i).foldl addK []).length + 1 < scanBound := by
      have h1 := foldK_len (ns.take i) []
      rw [List.length_take] at h1
      simp only [List.length_nil, Nat.zero_add] at h1
      omega
    refine wpAny_bind ((mixKind P w).pyHash (k := z) hkey ?_)
    refine setRk_add_hashed (s := { s with heap := h1, toks := tk + 1 }) hkey (hEL _ _ _ (Nat.le_succ _) hel) hS' hroom fun h' b hsb hS2 => ?_
    have hsb : Heap.SameBut S h1 h' := hsb
    have hS3 : SetRk w (EL (tk + 1)) h' S ((ns.take (i + 1)).foldl addK []) := by
      rw [List.take_add_one, hz, List.foldl_append]
      exact hS2
    refine wpAny_pure ⟨plainId_quiet F.plain_set_update_loop _, ih (i + 1) { s with heap := h', toks := tk + 1 } (by omega) hlt (W.frame _ h1 _ hst' fun b hb o e => ?_) (Nat.le_succ_of_le (Nat.le_trans ht htk)) hS3 fun h2 tk2 hm2 htk2 hS4 => ?_⟩
    · rw [hsb.2 b (fun h : b = S => hSf (by rw [← h]; exact hb))]; exact e
    · refine hR h2 tk2 (fun b o hb e => hm2 b o hb ?_) (Nat.le_trans (Nat.le_succ_of_le htk) htk2) hS4
      show h'.get? b = some o
      rw [hsb.2 b (fun h : b = S => hb (by rw [h]; exact List.mem_cons_self))]
      exact hm b o (fun z => hb (List.mem_cons_of_mem _ z)) e
abbrev setNew (w : World) : Obj := { cls := .type "set", dict := none, data := .set #[] 0 (.fresh 0 0 (!w.params.followText "set-order")) }
/-- the call, once the update from its argument is told -/
theorem call_set_of {EL : Nat → Value → Prop} {arg : Value} {L : List Key} {Q : Value → Shared → Prop}
    (hin : ∀ (A' : Around) (R' : PySem.Fin → Shared → Prop), A'.handled = A.handled → (∀ h' tk, s.toks ≤ tk → SetRk w (EL tk) h' s.heap.objs.size L → (∀ b o, s.heap.get? b = some o → h'.get? b = some o) → R' (.done (.ret .none)) { s with heap := h', toks := tk }) →
      wpAny (model P w) A' (Builtin.«set.__init__» ⟨[.ref s.heap.objs.size, arg], []⟩) R' E { s with heap := s.heap.push (setNew w) })
    (h : ∀ (h' : Heap) (tk : Nat), s.toks ≤ tk → SetRk w (EL tk) h' s.heap.objs.size L → (∀ b o, s.heap.get? b = some o → h'.get? b = some o) → Q (.ref s.heap.objs.size) { s with heap := h', toks := tk }) :
    wpAny (model P w) A (call (.type "set") [arg]) Q E s := by
  obtain ⟨c, tl, hmro⟩ := F.called_set.mro
  have hmade := F.called_set.made
  have hsub := F.called_set.sub
  refine wpAny_call (codeAny_of_tree ?_)
  show wpAny _ _ (callAny (.type "set") _) _ _ _
  refine wpAny_pure ⟨Code.quiet_builtin _ (by decide +kernel), codeAny_builtin F.entry_type_call ?_⟩
  rw [Around.under_plain (weight_type_call_type "set" [arg] []) rfl]
  have h1 := F.called_set.notType
  have h2 := F.called_set.canCreate
  have hct := F.typeCall_set_1 arg
  repeat (any_goals (first | assumption | wp_step))
  refine codeAny_mono (code_set_led1 arg (E := E) (Q₁ := fun obj s₁ => obj = .ref s.heap.objs.size ∧ s₁ = { s with heap := s.heap.push (setNew w) }) ⟨rfl, rfl⟩) fun r s₁ hr => ?_
  cases r with
  | error e => exact hr
  | ok fl =>
    cases fl with
    | ret obj =>
      obtain ⟨rfl, rfl⟩ := hr
      have hS : (s.heap.push (setNew w)).get? s.heap.objs.size = some (setNew w) := Heap.get?_push_size _ rfl
      have hT : Shared.TypeIs { s with heap := s.heap.push (setNew w) } (.ref s.heap.objs.size) "set" := ⟨_, hS, rfl⟩
      have hli := F.called_set.init.lookup
      have hbi := F.called_set.init.bind (.ref s.heap.objs.size)
      repeat (any_goals (first | assumption | wp_step))
      refine codeAny_mono (codeAny_call_builtin (R := wants (fun r s₂ => r = .none ∧ ∃ h' tk, s₂ = { s with heap := h', toks := tk } ∧ s.toks ≤ tk ∧ SetRk w (EL tk) h' s.heap.objs.size L ∧
          (∀ b o, s.heap.get? b = some o → h'.get? b = some o)) E) F.called_set.init.plain F.entry_set_init (check_set_init_1 hT ?_)) fun r₂ s₂ hr₂ => ?_
      · exact hin _ _ (by simp) fun h' tk q0 q1 q2 => ⟨rfl, h', tk, rfl, q0, q1, q2⟩
      · cases r₂ with
        | error e => exact hr₂
        | ok fl₂ =>
          cases fl₂ with
          | ret r =>
            obtain ⟨rfl, h', tk, rfl, htk', hS', hk'⟩ := hr₂
            repeat (any_goals (first | assumption | wp_step))
            exact h _ _ htk' hS' hk'
          | _ => exact hr₂.elim
    | _ => exact hr.elim

theorem foldK_mem : ∀ (ks L : List Key) (k : Key), k ∈ ks.foldl addK L ↔ k ∈ L ∨ k ∈ ks
  | [], L, k => by simp
  | j :: ks, L, k => by
    rw [List.foldl_cons, foldK_mem ks (addK L j) k]
    unfold addK
    split
    · rename_i hj
      constructor
      · rintro (h | h)
        · exact .inl h
        · exact .inr (List.mem_cons_of_mem _ h)
      · rintro (h | h)
        · exact .inl h
        · rcases List.mem_cons.mp h with rfl | h
          · exact .inl hj
          · exact .inr h
    · simp only [List.mem_cons]
      constructor
      · rintro ((h | h) | h)
        · exact .inr (.inl h)
        · exact .inl h
        · exact .inr (.inr h)
      · rintro (h | h | h)
        · exact .inl (.inr h)
        · exact .inl (.inl h)
        · exact .inr h
theorem foldK_nodup : ∀ (ks L : List Key), L.Nodup → (ks.foldl addK L).Nodup
  | [], L, h => h
  | j :: ks, L, h => by
    refine foldK_nodup ks (addK L j) ?_
    unfold addK
    split
    · exact h
    · rename_i hj
      exact List.nodup_cons.mpr ⟨hj, h⟩
end
end Ev
namespace Ev
open PySem PySem.Spec PyProof.Rows L2
section
variable {P : Program} {w : World} {A : Around} {E : Value → Shared → Prop} {s : Shared} {EL : Nat → Value → Prop}
theorem set_from_list {l : Addr} {items : Array Value} {ks : List Key} {R' : PySem.Fin → Shared → Prop} {A' : Around} (hh : A'.handled = none) (hl : s.heap.IsList l items) (hit : Paired (fun k v => keyIs k v = true) ks items.toList) (hb : ks.length + 1 < scanBound)
    (htk : 1 ≤ s.toks) (hEL : ∀ n m v, n ≤ m → EL n v → EL m v) (hvs : ∀ v ∈ items.toList, ∀ m, EL m v)
    (h : ∀ h' tk, s.toks ≤ tk → SetRk w (EL tk) h' s.heap.objs.size (ks.foldl addK []) → (∀ b o, s.heap.get? b = some o → h'.get? b = some o) → R' (.done (.ret .none)) { s with heap := h', toks := tk }) :
    wpAny (model P w) A' (Builtin.«set.__init__» ⟨[.ref s.heap.objs.size, .ref l], []⟩) R' E { s with heap := s.heap.push (setNew w) } := by
  have hisz : items.size = ks.length := by rw [← Array.length_toList]; exact (Paired.length hit).symm
  have hS : (s.heap.push (setNew w)).get? s.heap.objs.size = some (setNew w) := Heap.get?_push_size _ rfl
  obtain ⟨ol, hol, hcl, nl, hdl⟩ := hl
  obtain ⟨ocls, odict, odata, oslots⟩ := ol
  simp only at hcl hdl
  subst hcl; subst hdl
  have hol' : (s.heap.push (setNew w)).get? l = some { cls := .type "list", dict := odict, data := .seq items nl, slots := oslots } := Heap.get?_push_of_some _ hol
  have hsls := F.sub_list_set
  have hslf := F.sub_list_frozenset
  have hne : (Value.type "list" == Value.type "dict") = false := by decide
  have hl1 : (s.heap.push (setNew w)).IsList l items := ⟨_, hol', rfl, nl, rfl⟩
  unfold Builtin.«set.__init__» noKeywords Builtin.Frozenset.updateFrom
  generalize hPI : pyIter = PI
  wp_walk
  subst hPI
  refine wpAny_pyIter_list hl1 ?_
  refine wpAny_bind (wpAny_runValue ?_)
  have hlS : l < s.heap.objs.size := Heap.lt_size hol
  have hh3 : A'.in1.handled = none := by simp [hh]
  have hneI : l ≠ (s.heap.push (setNew w)).objs.size := by
    rw [Heap.size_push]; exact Nat.ne_of_lt (Nat.lt_succ_of_lt hlS)
  have hSf : s.heap.objs.size ∉ [(s.heap.push (setNew w)).objs.size, l] := by
    rw [Heap.size_push]; simp only [List.mem_cons, List.mem_singleton, List.not_mem_nil, or_false, not_or]
    exact ⟨Nat.ne_of_lt (Nat.lt_succ_self _), Nat.ne_of_gt hlS⟩
  have hval : ∀ (i : Nat) (v : Value) (m : Nat), items[i]? = some v → ∃ k, ks[i]? = some k ∧ keyIs k v = true ∧ EL m v := fun i v m hv => by
    have hv' : items.toList[i]? = some v := by rw [Array.getElem?_toList]; exact hv
    obtain ⟨k, h1, h2⟩ := paired_get (R := fun k v => keyIs k v = true) hit hv'
    exact ⟨k, h1, h2, hvs v (List.mem_of_getElem? hv') m⟩
  refine set_update_keys hEL (WN.of (Walks.list hh3 _ l hneI items)) s.heap.objs.size
    hSf ks hisz hb hval (items.size - 0) 0 _ (by omega) (Nat.zero_le _)
    ⟨⟨_, Heap.get?_push_size _ rfl, rfl, rfl⟩, (hl1.push _)⟩ htk ?hS0 ?hR
  case hS0 =>
    have hget : ((s.heap.push (setNew w)).push { cls := .type "list_iterator", data := .fields #[.ref l, .int 0 0] }).get? s.heap.objs.size = some (setNew w) := Heap.get?_push_of_some _ hS
    exact setRk_fresh hget
  case hR =>
    intro h' tk' hm htk' hS'
    show wpAny _ _ _ _ _ _
    refine wpAny_pure ?_
    show wpAny _ _ (ret Value.none) _ _ _
    refine wpAny_pure (h h' tk' htk' hS' fun b o e => ?_)
    have hb0 : b < s.heap.objs.size := Heap.lt_size e
    have hb1 : b ≠ s.heap.objs.size := Nat.ne_of_lt hb0
    have hb2 : b ≠ (s.heap.push (setNew w)).objs.size := by
      rw [Heap.size_push]; exact Nat.ne_of_lt (Nat.lt_succ_of_lt hb0)
    exact hm b o (by simp only [List.mem_cons, List.mem_singleton, List.not_mem_nil, or_false, not_or]; exact ⟨hb1, hb2⟩) (Heap.get?_push_of_some _ (Heap.get?_push_of_some _ e))
theorem set_from_tuple {l : Addr} {items : Array Value} {ks : List Key} {R' : PySem.Fin → Shared → Prop} {A' : Around} (hh : A'.handled = none) (hl : s.heap.IsTuple l items) (hit : Paired (fun k v => keyIs k v = true) ks items.toList) (hb : ks.length + 1 < scanBound)
    (htk : 1 ≤ s.toks) (hEL : ∀ n m v, n ≤ m → EL n v → EL m v) (hvs : ∀ v ∈ items.toList, ∀ m, EL m v)
    (h : ∀ h' tk, s.toks ≤ tk → SetRk w (EL tk) h' s.heap.objs.size (ks.foldl addK []) → (∀ b o, s.heap.get? b = some o → h'.get? b = some o) → R' (.done (.ret .none)) { s with heap := h', toks := tk }) :
    wpAny (model P w) A' (Builtin.«set.__init__» ⟨[.ref s.heap.objs.size, .ref l], []⟩) R' E { s with heap := s.heap.push (setNew w) } := by
  have hisz : items.size = ks.length := by rw [← Array.length_toList]; exact (Paired.length hit).symm
  have hS : (s.heap.push (setNew w)).get? s.heap.objs.size = some (setNew w) := Heap.get?_push_size _ rfl
  obtain ⟨ol, hol, hcl, nl, hdl⟩ := hl
  obtain ⟨ocls, odict, odata, oslots⟩ := ol
  simp only at hcl hdl
  subst hcl; subst hdl
  have hol' : (s.heap.push (setNew w)).get? l = some { cls := .type "tuple", dict := odict, data := .seq items nl, slots := oslots } := Heap.get?_push_of_some _ hol
  have hsls := F.sub_tuple_set
  have hslf := F.sub_tuple_frozenset
  have hne : (Value.type "tuple" == Value.type "dict") = false := by decide
  have hl1 : (s.heap.push (setNew w)).IsTuple l items := ⟨_, hol', rfl, nl, rfl⟩
  unfold Builtin.«set.__init__» noKeywords Builtin.Frozenset.updateFrom
  generalize hPI : pyIter = PI
  wp_walk
  subst hPI
  refine wpAny_pyIter_tuple hl1 ?_
  refine wpAny_bind (wpAny_runValue ?_)
  have hlS : l < s.heap.objs.size := Heap.lt_size hol
  have hh3 : A'.in1.handled = none := by simp [hh]
  have hneI : l ≠ (s.heap.push (setNew w)).objs.size := by
    rw [Heap.size_push]; exact Nat.ne_of_lt (Nat.lt_succ_of_lt hlS)
  have hSf : s.heap.objs.size ∉ [(s.heap.push (setNew w)).objs.size, l] := by
    rw [Heap.size_push]; simp only [List.mem_cons, List.mem_singleton, List.not_mem_nil, or_false, not_or]
    exact ⟨Nat.ne_of_lt (Nat.lt_succ_self _), Nat.ne_of_gt hlS⟩
  have hval : ∀ (i : Nat) (v : Value) (m : Nat), items[i]? = some v → ∃ k, ks[i]? = some k ∧ keyIs k v = true ∧ EL m v := fun i v m hv => by
    have hv' : items.toList[i]? = some v := by rw [Array.getElem?_toList]; exact hv
    obtain ⟨k, h1, h2⟩ := paired_get (R := fun k v => keyIs k v = true) hit hv'
    exact ⟨k, h1, h2, hvs v (List.mem_of_getElem? hv') m⟩
  refine set_update_keys hEL (WN.of (Walks.tuple hh3 _ l hneI items)) s.heap.objs.size
    hSf ks hisz hb hval (items.size - 0) 0 _ (by omega) (Nat.zero_le _)
    ⟨⟨_, Heap.get?_push_size _ rfl, rfl, rfl⟩, (hl1.push _)⟩ htk ?hS0 ?hR
  case hS0 =>
    have hget : ((s.heap.push (setNew w)).push { cls := .type "tuple_iterator", data := .fields #[.ref l, .int 0 0] }).get? s.heap.objs.size = some (setNew w) := Heap.get?_push_of_some _ hS
    exact setRk_fresh hget
  case hR =>
    intro h' tk' hm htk' hS'
    show wpAny _ _ _ _ _ _
    refine wpAny_pure ?_
    show wpAny _ _ (ret Value.none) _ _ _
    refine wpAny_pure (h h' tk' htk' hS' fun b o e => ?_)
    have hb0 : b < s.heap.objs.size := Heap.lt_size e
    have hb1 : b ≠ s.heap.objs.size := Nat.ne_of_lt hb0
    have hb2 : b ≠ (s.heap.push (setNew w)).objs.size := by
      rw [Heap.size_push]; exact Nat.ne_of_lt (Nat.lt_succ_of_lt hb0)
    exact hm b o (by simp only [List.mem_cons, List.mem_singleton, List.not_mem_nil, or_false, not_or]; exact ⟨hb1, hb2⟩) (Heap.get?_push_of_some _ (Heap.get?_push_of_some _ e))
theorem set_from_str {x : Str} {t : Tok} {R' : PySem.Fin → Shared → Prop} {A' : Around} (hh : A'.handled = none) (hb : x.cps.size + 1 < scanBound)
    (htk : 1 ≤ s.toks) (hEL : ∀ n m v, n ≤ m → EL n v → EL m v) (hvs : ∀ i v m, SignT x i v m → EL m v)
    (h : ∀ h' tk, s.toks ≤ tk → SetRk w (EL tk) h' s.heap.objs.size ((x.cps.toList.map fun c => (Sum.inr ⟨#[c]⟩ : Key)).foldl addK []) → (∀ b o, s.heap.get? b = some o → h'.get? b = some o) → R' (.done (.ret .none)) { s with heap := h', toks := tk }) :
    wpAny (model P w) A' (Builtin.«set.__init__» ⟨[.ref s.heap.objs.size, .str x t], []⟩) R' E { s with heap := s.heap.push (setNew w) } := by
  have hS : (s.heap.push (setNew w)).get? s.heap.objs.size = some (setNew w) := Heap.get?_push_size _ rfl
  have hsls := F.sub_str_set
  have hslf := F.sub_str_frozenset
  have hne : (Value.type "str" == Value.type "dict") = false := by decide
  unfold Builtin.«set.__init__» noKeywords Builtin.Frozenset.updateFrom
  generalize hPI : pyIter = PI
  wp_walk
  subst hPI
  refine wpAny_pyIter_strU ?_
  refine wpAny_bind (wpAny_runValue ?_)
  have hh3 : A'.in1.handled = none := by simp [hh]
  have hSf : s.heap.objs.size ∉ [(s.heap.push (setNew w)).objs.size] := by
    rw [Heap.size_push]; simp only [List.mem_singleton]
    exact Nat.ne_of_lt (Nat.lt_succ_self _)
  have hval : ∀ (i : Nat) (v : Value) (m : Nat), SignT x i v m → ∃ k, (x.cps.toList.map fun c => (Sum.inr ⟨#[c]⟩ : Key))[i]? = some k ∧ keyIs k v = true ∧ EL m v := fun i v m hv => by
    have hv0 := hv
    obtain ⟨c, u, hc, rfl, _, _⟩ := hv
    refine ⟨Sum.inr ⟨#[c]⟩, ?_, keyIs_str _ _, hvs i _ m hv0⟩
    rw [List.getElem?_map, Array.getElem?_toList, hc]
    rfl
  refine set_update_keys hEL (WN.text hh3 _ x t) s.heap.objs.size
    hSf (x.cps.toList.map fun c => (Sum.inr ⟨#[c]⟩ : Key)) (by simp) (by simpa using hb) hval (x.cps.size - 0) 0 _ (by omega) (Nat.zero_le _)
    ⟨_, Heap.get?_push_size _ rfl, rfl, rfl⟩ htk ?hS0 ?hR
  case hS0 => exact setRk_fresh (Heap.get?_push_of_some _ hS)
  case hR =>
    intro h' tk' hm htk' hS'
    show wpAny _ _ _ _ _ _
    refine wpAny_pure ?_
    show wpAny _ _ (ret Value.none) _ _ _
    refine wpAny_pure (h h' tk' htk' hS' fun b o e => ?_)
    have hb0 : b < s.heap.objs.size := Heap.lt_size e
    have hb1 : b ≠ s.heap.objs.size := Nat.ne_of_lt hb0
    have hb2 : b ≠ (s.heap.push (setNew w)).objs.size := by
      rw [Heap.size_push]; exact Nat.ne_of_lt (Nat.lt_succ_of_lt hb0)
    exact hm b o (by simp only [List.mem_cons, List.mem_singleton, List.not_mem_nil, or_false, not_or]; exact ⟨hb1, hb2⟩) (Heap.get?_push_of_some _ (Heap.get?_push_of_some _ e))
end
end Ev
namespace Ev
open PySem PySem.Spec PyProof.Rows L2
/-- keys that stand for data -/
inductive KD : List D → List Key → Prop
  | nil : KD [] []
  | int {i : Int} {ds : List D} {ks : List Key} : KD ds ks → KD (.int i :: ds) (.inl i :: ks)
  | str {l : List Nat} {ds : List D} {ks : List Key} : KD ds ks → KD (.str l :: ds) (.inr (tS l) :: ks)
theorem KD.length : ∀ {ds : List D} {ks : List Key}, KD ds ks → ks.length = ds.length
  | _, _, .nil => rfl
  | _, _, .int h => by simp [KD.length h]
  | _, _, .str h => by simp [KD.length h]
theorem KD.ints : ∀ ns : List Int, KD (ns.map .int) (ns.map Sum.inl)
  | [] => .nil
  | _ :: ns => .int (KD.ints ns)
theorem KD.strs : ∀ xs : List (List Nat), KD (xs.map .str) (xs.map fun l => Sum.inr (tS l))
  | [] => .nil
  | _ :: xs => .str (KD.strs xs)
section
variable {B : Bk} {X : Cx} {N : List Str} {F : Fx} {pins : List (Addr × Obj)} {O : Addr → Prop} {ρ : List Sl} {s s1 s2 s' : Shared} {pos p2 np np2 : Pos} {e : Expr} {x : Ev.X} {xs : List Ev.X}
theorem KD.vals {h : Heap} {n : Nat} : ∀ {ds : List D} {ks : List Key} {us : List Value}, KD ds ks → DVs B O h n us ds → Paired (fun k v => keyIs k v = true) ks us
  | _, _, _, .nil, h => by
    cases h
    exact .nil
  | _, _, _, .int k, h => by
    cases h with
    | cons a r =>
      cases a with
      | int i t => exact .cons (keyIs_int _ _) (KD.vals k r)
  | _, _, _, .str k, h => by
    cases h with
    | cons a r =>
      cases a with
      | str l t g z => exact .cons (keyIs_str _ _) (KD.vals k r)
theorem sb : 1000 + 1 < scanBound := by decide
/-- set(v) -/
theorem mk_set {v : Value} {d : D} {ds : List D} {ks : List Key} (hc : X.calm = true) (S : Ste B X pins O N ρ s) (hv : DV B O s.heap s.toks v d) (hi : seqItems d = .ok ds) (hl : ds.length ≤ 1000) (hk : KD ds ks) :
    wpAny (model X.prog X.w) X.A (call (.type "set") [v]) (fun u s' => ∃ a, u = .ref a ∧ Inv X pins [] X.H_0 s' ∧ Le X s s' ∧ SetRk X.w (fun w => ∃ dd ∈ ds, DV B O s'.heap s'.toks w dd) s'.heap a (ks.foldl addK [])) X.xe s := by
  have hb : ks.length + 1 < scanBound := by
    have := sb
    rw [hk.length]
    omega
  have hh := S.inv.ok.hd hc
  have fin : ∀ {El : Nat → Value → Prop} (h' : Heap) (tk : Nat), s.toks ≤ tk → SetRk X.w (El tk) h' s.heap.objs.size (ks.foldl addK []) → (∀ b o, s.heap.get? b = some o → h'.get? b = some o) → (∀ w, El tk w → ∃ dd ∈ ds, DV B O h' tk w dd) →
      ∃ a, Value.ref s.heap.objs.size = .ref a ∧ Inv X pins [] X.H_0 { s with heap := h', toks := tk } ∧ Le X s { s with heap := h', toks := tk } ∧ SetRk X.w (fun w => ∃ dd ∈ ds, DV B O h' tk w dd) h' a (ks.foldl addK []) := fun h' tk q R k hEl =>
    ⟨_, rfl, S.inv.kept k, Le.kept k q, R.imp hEl⟩
  cases hv with
  | str l t g z =>
    cases hi
    have ek : ks = (tS l).cps.toList.map fun c => (Sum.inr ⟨#[c]⟩ : Key) := by
      show ks = l.toArray.toList.map _
      rw [List.toList_toArray]
      clear hl hb fin z g
      induction l generalizing ks with
      | nil =>
        cases hk
        rfl
      | cons c l ih =>
        cases hk with
        | str hk => rw [List.map_cons, ih hk]
    subst ek
    refine call_set_of (EL := fun m w => ∃ i, SignT (tS l) i w m) (fun A' R' hA hq => set_from_str (by rw [hA]; exact hh) (by simpa using hb) S.tk (fun n m w h ⟨i, c, u, h1, h2, h3, h4⟩ => ⟨i, c, u, h1, h2, h3, Nat.lt_of_lt_of_le h4 h⟩) (fun i w m h => ⟨i, h⟩) hq) fun h' tk q R k => fin (El := fun m w => ∃ i, SignT (tS l) i w m) h' tk q R k ?_
    rintro w ⟨i, hs⟩
    have hi : i < l.length := by
      obtain ⟨c, u, h1, _⟩ := hs
      have h1 : l[i]? = some c := by simpa [tS] using h1
      exact (List.getElem?_eq_some_iff.mp h1).1
    have hd : (l.map fun c => D.str [c])[i]? = some (.str [l[i]]) := by simp [hi]
    exact ⟨_, List.mem_of_getElem? hd, sign_dv (x := tS l) z.2 hd hs⟩
  | @list a its ep ds' no eo z r =>
    cases hi
    refine call_set_of (EL := fun _ w => w ∈ its) (fun A' R' hA hq => set_from_list (items := its.toArray) (by rw [hA]; exact hh) ⟨_, eo, rfl, _, rfl⟩ (by simpa using hk.vals r) hb S.tk (fun n m w _ h => h) (fun w hw _ => by simpa using hw) hq) fun h' tk q R k => fin (El := fun _ w => w ∈ its) h' tk q R k ?_
    intro w hw
    obtain ⟨i, hi⟩ := List.getElem?_of_mem hw
    obtain ⟨dd, h1, h2⟩ := r.getV hi
    exact ⟨dd, List.mem_of_getElem? h1, h2.mono (fun b o _ e => k b o e) q fun _ z => z⟩
  | @tuple a its ep ds' no eo z r =>
    cases hi
    refine call_set_of (EL := fun _ w => w ∈ its) (fun A' R' hA hq => set_from_tuple (items := its.toArray) (by rw [hA]; exact hh) ⟨_, eo, rfl, _, rfl⟩ (by simpa using hk.vals r) hb S.tk (fun n m w _ h => h) (fun w hw _ => by simpa using hw) hq) fun h' tk q R k => fin (El := fun _ w => w ∈ its) h' tk q R k ?_
    intro w hw
    obtain ⟨i, hi⟩ := List.getElem?_of_mem hw
    obtain ⟨dd, h1, h2⟩ := r.getV hi
    exact ⟨dd, List.mem_of_getElem? h1, h2.mono (fun b o _ e => k b o e) q fun _ z => z⟩
  | _ => cases hi
theorem once_mem {α : Type} [BEq α] [LawfulBEq α] (z : α) : ∀ l : List α, z ∈ once l ↔ z ∈ l
  | [] => by simp [once]
  | a :: l => by
    unfold once
    split
    · rename_i h
      rw [once_mem z l]
      constructor
      · exact fun q => List.mem_cons_of_mem _ q
      · intro q
        rcases List.mem_cons.mp q with rfl | q
        · simpa using h
        · exact q
    · rw [List.mem_cons, List.mem_cons, once_mem z l]
theorem once_nodup {α : Type} [BEq α] [LawfulBEq α] : ∀ l : List α, (once l).Nodup
  | [] => by simp [once]
  | a :: l => by
    unfold once
    split
    · exact once_nodup l
    · rename_i h
      refine List.nodup_cons.mpr ⟨fun q => h ?_, once_nodup l⟩
      have := (once_mem a l).mp q
      simpa using this
theorem fold_perm {α : Type} [BEq α] [LawfulBEq α] {f : α → Key} (hf : ∀ a b, f a = f b → a = b) (l : List α) : ((l.map f).foldl addK []).Perm ((once l).map f) := by
  refine (List.perm_ext_iff_of_nodup (foldK_nodup _ [] List.nodup_nil) ?_).mpr fun k => ?_
  · exact List.Pairwise.map f (fun a b h q => h (hf a b q)) (once_nodup l)
  · rw [foldK_mem]
    simp only [List.not_mem_nil, false_or, List.mem_map]
    constructor
    · rintro ⟨a, ha, rfl⟩
      exact ⟨a, (once_mem a l).mpr ha, rfl⟩
    · rintro ⟨a, ha, rfl⟩
      exact ⟨a, (once_mem a l).mp ha, rfl⟩
theorem insI_perm (a : Int) : ∀ l : List Int, (insI a l).Perm (a :: l)
  | [] => .refl _
  | b :: l => by
    unfold insI
    split
    · exact ((insI_perm a l).cons b).trans (.swap a b l)
    · exact .refl _
theorem sortI_perm : ∀ l : List Int, (sortI l).Perm l
  | [] => .refl _
  | a :: l => (insI_perm a _).trans ((sortI_perm l).cons a)
theorem insI_sorted (a : Int) : ∀ l : List Int, l.Pairwise (· ≤ ·) → (insI a l).Pairwise (· ≤ ·)
  | [], _ => by simp [insI]
  | b :: l, h => by
    obtain ⟨h1, h2⟩ := List.pairwise_cons.mp h
    unfold insI
    split
    · rename_i hb
      refine List.pairwise_cons.mpr ⟨fun y hy => ?_, insI_sorted a l h2⟩
      rcases List.mem_cons.mp ((insI_perm a l).mem_iff.mp hy) with rfl | hy
      · omega
      · exact h1 y hy
    · rename_i hb
      refine List.pairwise_cons.mpr ⟨fun y hy => ?_, h⟩
      rcases List.mem_cons.mp hy with rfl | hy
      · omega
      · have := h1 y hy
        omega
theorem sortI_sorted : ∀ l : List Int, (sortI l).Pairwise (· ≤ ·)
  | [] => .nil
  | a :: l => insI_sorted a _ (sortI_sorted l)
theorem insS_perm (a : List Nat) : ∀ l : List (List Nat), (insS a l).Perm (a :: l)
  | [] => .refl _
  | b :: l => by
    unfold insS
    split
    · exact ((insS_perm a l).cons b).trans (.swap a b l)
    · exact .refl _
theorem sortS_perm : ∀ l : List (List Nat), (sortS l).Perm l
  | [] => .refl _
  | a :: l => (insS_perm a _).trans ((sortS_perm l).cons a)
theorem insS_sorted (a : List Nat) : ∀ l : List (List Nat), l.Pairwise (· ≤ ·) → (insS a l).Pairwise (· ≤ ·)
  | [], _ => by simp [insS]
  | b :: l, h => by
    obtain ⟨h1, h2⟩ := List.pairwise_cons.mp h
    unfold insS
    split
    · rename_i hb
      refine List.pairwise_cons.mpr ⟨fun y hy => ?_, insS_sorted a l h2⟩
      rcases List.mem_cons.mp ((insS_perm a l).mem_iff.mp hy) with rfl | hy
      · exact List.le_of_lt hb
      · exact h1 y hy
    · rename_i hb
      have hab : a ≤ b := List.not_lt.mp hb
      refine List.pairwise_cons.mpr ⟨fun y hy => ?_, h⟩
      rcases List.mem_cons.mp hy with rfl | hy
      · exact hab
      · exact List.le_trans hab (h1 y hy)
theorem sortS_sorted : ∀ l : List (List Nat), (sortS l).Pairwise (· ≤ ·)
  | [] => .nil
  | a :: l => insS_sorted a _ (sortS_sorted l)
/-- a sorted list is one alone -/
theorem sorted_one {α : Type} {le : α → α → Prop} (asym : ∀ a b, le a b → le b a → a = b) : ∀ {xs ys : List α}, xs.Pairwise le → ys.Pairwise le → xs.Perm ys → xs = ys
  | [], ys, _, _, p => by
    have := p.length_eq
    exact (List.eq_nil_of_length_eq_zero this.symm).symm
  | a :: xs, [], _, _, p => by
    have := p.length_eq
    simp at this
  | a :: xs, b :: ys, hx, hy, p => by
    obtain ⟨h1, h2⟩ := List.pairwise_cons.mp hx
    obtain ⟨h3, h4⟩ := List.pairwise_cons.mp hy
    have hab : a = b := by
      rcases List.mem_cons.mp (p.mem_iff.mp List.mem_cons_self) with q | q
      · exact q
      · rcases List.mem_cons.mp (p.mem_iff.mpr List.mem_cons_self) with q' | q'
        · exact q'.symm
        · exact asym a b (h1 b q') (h3 a q)
    subst hab
    rw [sorted_one asym h2 h4 (p.cons_inv)]
theorem merge_ints (ns : List Int) : ns.mergeSort (fun a b => decide (a ≤ b)) = sortI ns := by
  refine sorted_one (le := (· ≤ ·)) (fun a b h1 h2 => by omega) ?_ (sortI_sorted ns) ((List.mergeSort_perm ns _).trans (sortI_perm ns).symm)
  have := List.pairwise_mergeSort (le := fun a b : Int => decide (a ≤ b)) (fun a b c h1 h2 => by simp at *; omega) (fun a b => by simp; omega) ns
  exact this.imp fun h => by simpa using h
theorem merge_strs (ns : List (List Nat)) : ns.mergeSort (fun a b => decide (a ≤ b)) = sortS ns := by
  refine sorted_one (le := (· ≤ ·)) (fun a b h1 h2 => List.le_antisymm h1 h2) ?_ (sortS_sorted ns) ((List.mergeSort_perm ns _).trans (sortS_perm ns).symm)
  have := List.pairwise_mergeSort (le := fun a b : List Nat => decide (a ≤ b)) (fun a b c h1 h2 => by simp at *; exact List.le_trans h1 h2) (fun a b => by simp; exact List.le_total a b) ns
  exact this.imp fun h => by simpa using h
theorem perm_of_map {α β : Type} {f : α → β} (hf : ∀ a b, f a = f b → a = b) {xs ys : List α} (h : (xs.map f).Perm (ys.map f)) : xs.Perm ys := by
  open Classical in
  rw [List.perm_iff_count] at h ⊢
  intro a
  have cm : ∀ l : List α, List.count (f a) (l.map f) = List.count a l := by
    intro l
    induction l with
    | nil => rfl
    | cons x l ih =>
      rw [List.map_cons, List.count_cons, List.count_cons, ih]
      by_cases hx : x = a
      · subst hx; simp
      · have : f x ≠ f a := fun z => hx (hf _ _ z)
        simp [hx, this]
  have := h (f a)
  rwa [cm, cm] at this
mutual
theorem reads_lt {h : Heap} : ∀ {v : Value} {d : PyData} {as : List Addr}, Reads h v d as → ∀ a ∈ as, a < h.objs.size
  | _, _, _, .none, a, ha => by cases ha
  | _, _, _, .bool _, a, ha => by cases ha
  | _, _, _, .int _ _, a, ha => by cases ha
  | _, _, _, .str _ _, a, ha => by cases ha
  | _, _, _, .list e _ _ r, a, ha => by
    rcases List.mem_cons.mp ha with q | q
    · rw [q]; exact Heap.lt_size e
    · exact readsAll_lt r a q
  | _, _, _, .tuple e _ _ r, a, ha => readsAll_lt r a ha
  | _, _, _, .dict e _ _ r r', a, ha => by
    rcases List.mem_cons.mp ha with q | q
    · rw [q]; exact Heap.lt_size e
    · rcases List.mem_append.mp q with q | q
      · exact readsAll_lt r a q
      · exact readsAll_lt r' a q
theorem readsAll_lt {h : Heap} : ∀ {vs : List Value} {ds : List PyData} {as : List Addr}, ReadsAll h vs ds as → ∀ a ∈ as, a < h.objs.size
  | _, _, _, .nil, a, ha => by cases ha
  | _, _, _, .cons r rs, a, ha => by
    rcases List.mem_append.mp ha with q | q
    · exact reads_lt r a q
    · exact readsAll_lt rs a q
end
theorem each_has {α β : Type} {R : α → β → Prop} : ∀ {as : List α} {bs : List β}, PySem.W.EachIs R as bs → ∀ {b : β}, b ∈ bs → ∃ a, R a b
  | _, _, .nil, b, hb => by cases hb
  | _, _, .cons h t, b, hb => by
    rcases List.mem_cons.mp hb with q | q
    · rw [q]; exact ⟨_, h⟩
    · exact each_has t q
theorem each_dvs {β : Type} {g : β → D} {h : Heap} {n : Nat} : ∀ {vs : List Value} {bs : List β}, PySem.W.EachIs (fun v b => DV B O h n v (g b)) vs bs → DVs B O h n vs (bs.map g)
  | _, _, .nil => .nil
  | _, _, .cons a r => .cons a (each_dvs r)
theorem dvs_each {β : Type} {g : β → D} {h : Heap} {n : Nat} : ∀ {vs : List Value} {bs : List β}, DVs B O h n vs (bs.map g) → PySem.W.EachIs (fun v b => DV B O h n v (g b)) vs bs
  | _, [], h => by
    cases h
    exact .nil
  | _, b :: bs, h => by
    cases h with
    | cons a r => exact .cons a (dvs_each r)
/-- sorted(v), by what is collected of v -/
theorem sorted_of {β : Type} {g : β → D} {bs : List β} {v : Value} (S : Ste B X pins O N ρ s) (hu : X.A.units + 66 < cLine)
    (hcol : ∀ (E : Value → Shared → Prop) (Q : List Value → Shared → Prop), (∀ (s1 : Shared) (vs : List Value) (bs' : List β), bs'.Perm bs → Inv X pins [] X.H_0 s1 → Le X s s1 → DVs B O s1.heap s1.toks vs (bs'.map g) → Q vs s1) → wpAny (model X.prog X.w) X.A.in1 (collect v) Q E s)
    (hsh : ∀ b ∈ bs, shp 50 (g b) = true) (hal : ∀ b ∈ bs, ∀ b' ∈ bs, alk (g b) (g b') = true) (hk : (∀ b ∈ bs, ∃ x r, g b = .tuple (x :: r)) ∨ ∀ b ∈ bs, g b ≠ .none ∧ ∀ xs, g b ≠ .tuple xs) (hz : bs.length ≤ sizeLine) {le : β → β → Bool} (hle : PySem.W.dataLe false (fun b => pd (g b)) = le)
    {out : List β} (hout : ∀ bs' : List β, bs'.Perm bs → bs'.mergeSort le = out) :
    wpAny (model X.prog X.w) X.A (call (.builtin "sorted") [v]) (Pst B X pins O s (.list (out.map g))) X.xe s := by
  refine Calls.call_function_entry kind_sorted plain_sorted entry_sorted (args_sorted1 _) ?_
  unfold Builtin.«sorted»
  refine wpAny_bind (m := checkCount "sorted" 1 1 _) (wpAny_pure ?_)
  refine wpAny_bind (hcol _ _ fun s1 vs bs' hp I1 l1 hd => ?_)
  have S1 := S.step I1 l1
  have hlen : vs.length = bs.length := by rw [hd.length, List.length_map, hp.length_eq]
  refine wpAny_bind (wpAny_newList ?_ (by rw [hlen]; exact hz))
  have hoL : (s1.heap.push (seqObj "list" vs.toArray 0)).get? s1.heap.objs.size = some (seqObj "list" vs.toArray 0) := Heap.get?_push_size _ rfl
  have k2 : ∀ b o, s1.heap.get? b = some o → (s1.heap.push (seqObj "list" vs.toArray 0)).get? b = some o := fun b o e => Heap.get?_push_of_some _ e
  have hm : ∀ b, b ∈ bs' → b ∈ bs := fun b hb => hp.mem_iff.mp hb
  have er : PySem.W.EachIs (fun v b => ∃ as, Reads (s1.heap.push (seqObj "list" vs.toArray 0)) v (pd (g b)) as ∧ s1.heap.objs.size ∉ as) vs bs' := by
    refine (PySem.W.each_mem (dvs_each hd)).mono fun v b ⟨h, hb⟩ => ?_
    obtain ⟨⟨as, r⟩, _, _⟩ := reads_canLay_of 50 h (hsh b (hm b hb))
    exact ⟨as, PyProof.Rows.Reads.keeps k2 r, fun z => absurd (reads_lt r _ z) (Nat.lt_irrefl _)⟩
  have hAl : PySem.W.AllAlike (bs'.map fun b => pd (g b)) := by
    intro d hd' d' hd''
    obtain ⟨b, hb, rfl⟩ := List.mem_map.mp hd'
    obtain ⟨b', hb', rfl⟩ := List.mem_map.mp hd''
    exact alike_pd _ _ (hal b (hm b hb) b' (hm b' hb'))
  have hSo : PySem.W.Sortable (bs'.map fun b => pd (g b)) := by
    rcases hk with hk | hk
    · refine .inl fun d hd' => ?_
      obtain ⟨b, hb, rfl⟩ := List.mem_map.mp hd'
      obtain ⟨x, r, e⟩ := hk b (hm b hb)
      rw [e]
      exact ⟨_, _, rfl⟩
    · refine .inr fun d hd' => ?_
      obtain ⟨b, hb, rfl⟩ := List.mem_map.mp hd'
      obtain ⟨h1, h2⟩ := hk b (hm b hb)
      have h3 := hsh b (hm b hb)
      revert h1 h2 h3
      cases g b <;> intro h1 h2 h3 <;> first
        | exact absurd rfl h1
        | exact absurd rfl (h2 _)
        | (cases h3; done)
        | (refine ⟨fun z => ?_, fun xs z => ?_⟩ <;> cases z)
  have hd2 : PySem.W.EachIs (fun v b => DV B O s1.heap s1.toks v (g b)) vs bs' := dvs_each hd
  refine wpAny_bind (wpAny_holding (PySem.W.list_sort_data (s := { s1 with heap := s1.heap.push (seqObj "list" vs.toArray 0) }) hoL hd2 er hAl hSo (by rw [hp.length_eq]; exact hz) (fun b hb => ?_) fun ov hlo he => ?_))
  · have hdp : (pd (g b)).depth ≤ 50 := by
      obtain ⟨v, hv⟩ := each_has hd2 hb
      exact (reads_canLay_of 50 hv (hsh b (hm b hb))).2.2
    show X.A.units + 1 + 1 + _ < cLine
    omega
  · rw [hle, hout bs' hp] at he
    obtain ⟨c, hc⟩ := sortedHeap_at (vs := vs) (out := ov.toArray) hoL
    have kk : ∀ b u, s1.heap.get? b = some u → (sortedHeap (s1.heap.push (seqObj "list" vs.toArray 0)) s1.heap.objs.size vs ov.toArray).get? b = some u := fun b u q => by
      have hlt := Heap.lt_size q
      rw [sortedHeap_old (Nat.ne_of_lt hlt) (by rw [size_push']; exact Nat.lt_succ_of_lt hlt)]
      exact Heap.get?_push_of_some _ q
    have l2 : Le X s1 { s1 with heap := sortedHeap (s1.heap.push (seqObj "list" vs.toArray 0)) s1.heap.objs.size vs ov.toArray } := Le.kept kk (Nat.le_refl _)
    refine wpAny_pure ⟨_, rfl, I1.kept (t' := s1.toks) kk, l1.trans l2, .list S1.new hc ?_ (l2.dats S.fr (each_dvs he))⟩
    rw [hlo, hp.length_eq]
    exact hz
theorem tS_inj {a b : List Nat} (h : tS a = tS b) : a = b := by
  have := congrArg (fun z : Str => z.cps.toList) h
  simpa using this
theorem le_ints : PySem.W.dataLe false (fun b : Int => pd (.int b)) = fun a b => decide (a ≤ b) := PySem.W.dataLe_int (fun b => b)
theorem le_strs : PySem.W.dataLe false (fun b : List Nat => pd (.str b)) = fun a b => decide (a ≤ b) := by
  have := PySem.W.dataLe_str (fun b : List Nat => tS b)
  have e : (fun a b : List Nat => decide ((tS a).cps.toList ≤ (tS b).cps.toList)) = fun a b => decide (a ≤ b) := by
    funext a b
    simp [tS]
  exact this.trans e
theorem sorted_ints {ns : List Int} {v : Value} (S : Ste B X pins O N ρ s) (hu : X.A.units + 66 < cLine) (hz : ns.length ≤ sizeLine)
    (hcol : ∀ (E : Value → Shared → Prop) (Q : List Value → Shared → Prop), (∀ (s1 : Shared) (vs : List Value) (bs' : List Int), bs'.Perm ns → Inv X pins [] X.H_0 s1 → Le X s s1 → DVs B O s1.heap s1.toks vs (bs'.map .int) → Q vs s1) → wpAny (model X.prog X.w) X.A.in1 (collect v) Q E s) :
    wpAny (model X.prog X.w) X.A (call (.builtin "sorted") [v]) (Pst B X pins O s (.list ((sortI ns).map .int))) X.xe s :=
  sorted_of (g := D.int) S hu hcol (fun b _ => rfl) (fun b _ b' _ => rfl) (.inr fun b _ => ⟨fun z => (by cases z), fun xs z => (by cases z)⟩) hz le_ints fun bs' hp => by
    rw [merge_ints]
    exact sorted_one (le := (· ≤ ·)) (fun a b h1 h2 => by omega) (sortI_sorted _) (sortI_sorted _) ((sortI_perm bs').trans (hp.trans (sortI_perm ns).symm))
theorem sorted_strs {ns : List (List Nat)} {v : Value} (S : Ste B X pins O N ρ s) (hu : X.A.units + 66 < cLine) (hz : ns.length ≤ sizeLine)
    (hcol : ∀ (E : Value → Shared → Prop) (Q : List Value → Shared → Prop), (∀ (s1 : Shared) (vs : List Value) (bs' : List (List Nat)), bs'.Perm ns → Inv X pins [] X.H_0 s1 → Le X s s1 → DVs B O s1.heap s1.toks vs (bs'.map .str) → Q vs s1) → wpAny (model X.prog X.w) X.A.in1 (collect v) Q E s) :
    wpAny (model X.prog X.w) X.A (call (.builtin "sorted") [v]) (Pst B X pins O s (.list ((sortS ns).map .str))) X.xe s :=
  sorted_of (g := D.str) S hu hcol (fun b _ => rfl) (fun b _ b' _ => rfl) (.inr fun b _ => ⟨fun z => (by cases z), fun xs z => (by cases z)⟩) hz le_strs fun bs' hp => by
    rw [merge_strs]
    exact sorted_one (le := (· ≤ ·)) (fun a b h1 h2 => List.le_antisymm h1 h2) (sortS_sorted _) (sortS_sorted _) ((sortS_perm bs').trans (hp.trans (sortS_perm ns).symm))
/-- what is collected of a set -/
theorem collect_keys {β : Type} {g : β → D} {f : β → Key} {l : List β} {ds : List D} {a : Addr} {L : List Key} (hc : X.calm = true) (S : Ste B X pins O N ρ s) (hds : ∀ d ∈ ds, ∃ b ∈ l, d = g b) (hgf : ∀ b v, DV B O s.heap s.toks v (g b) → keyIs (f b) v = true) (hf : ∀ a b, f a = f b → a = b)
    (R : SetRk X.w (fun w => ∃ dd ∈ ds, DV B O s.heap s.toks w dd) s.heap a L) {l' : List β} (hL : L.Perm (l'.map f)) (E : Value → Shared → Prop) (Q : List Value → Shared → Prop)
    (hQ : ∀ (s1 : Shared) (vs : List Value) (bs' : List β), bs'.Perm l' → Inv X pins [] X.H_0 s1 → Le X s s1 → DVs B O s1.heap s1.toks vs (bs'.map g) → Q vs s1) : wpAny (model X.prog X.w) X.A.in1 (collect (.ref a)) Q E s := by
  obtain ⟨o, es, ep, t, ho, hex, hd, gd, pL, nd, hb, hft, hr, hl⟩ := R
  refine wpAny_with_toks (n := s.toks) (Nat.le_refl _) (collect_set (A := X.A.in1) (S.inv.ok.hd hc) ⟨o, ho, hex.1, hd⟩ hft hb hr hl fun s1 vs k1 hz g1 o1 pm htk => ?_)
  have kp : ∀ b ob, s.heap.get? b = some ob → s1.heap.get? b = some ob := k1
  have I1 : Inv X pins [] X.H_0 s1 := by
    have J := S.inv.call (g' := s1.gens) (d' := s1.drawn) (t' := s1.toks) (ch := []) (Un.kept kp) (S.inv.hok.kept kp) (by rw [g1]; exact S.inv.bare) (fun _ z => nomatch z)
    obtain ⟨a1, a2, a3, a4, a5⟩ := s1
    have e5 : a5 = s.os := o1
    subst e5
    exact J
  have l1 : Le X s s1 := ⟨fun b ob e => ⟨fun _ => kp b ob e, ob.slots, kp b ob e⟩, htk⟩
  -- each value has its own b
  have each : ∀ v ∈ vs, ∃ b, DV B O s.heap s.toks v (g b) := fun v hv => by
    obtain ⟨e, he, rfl⟩ := List.mem_map.mp (pm.mem_iff.mp hv)
    obtain ⟨_, dd, hdd, hdv⟩ := gd e he
    obtain ⟨b, _, rfl⟩ := hds dd hdd
    exact ⟨b, hdv⟩
  have split : ∀ vs : List Value, (∀ v ∈ vs, ∃ b, DV B O s.heap s.toks v (g b)) → ∃ bs : List β, DVs B O s.heap s.toks vs (bs.map g) ∧ vs.map keyV = bs.map f := by
    intro vs
    induction vs with
    | nil => exact fun _ => ⟨[], .nil, rfl⟩
    | cons v vs ih =>
      intro h
      obtain ⟨b, hb'⟩ := h v List.mem_cons_self
      obtain ⟨bs, h1, h2⟩ := ih fun w hw => h w (List.mem_cons_of_mem _ hw)
      exact ⟨b :: bs, .cons hb' h1, by rw [List.map_cons, List.map_cons, h2, keyV_of (hgf b v hb')]⟩
  obtain ⟨bs, h1, h2⟩ := split vs each
  have pk : (bs.map f).Perm (l'.map f) := by
    rw [← h2]
    have q := pm.map keyV
    rw [List.map_map] at q
    exact (q.trans pL).trans hL
  exact hQ s1 vs bs (perm_of_map hf pk) I1 l1 (l1.dats S.fr h1)
end
end Ev
namespace Ev
open PySem PySem.Spec PyProof.Rows L2
theorem allInt_map : ∀ {ds : List D} {ns : List Int}, allInt ds = .ok ns → ds = ns.map .int
  | [], ns, e => by
    cases e
    rfl
  | d :: r, ns, e => by
    cases d with
    | int i =>
      obtain ⟨l, h1, h2⟩ := R.bind_ok (r := allInt r) e
      cases h2
      rw [allInt_map h1]
      rfl
    | _ => cases e
theorem allStr_map : ∀ {ds : List D} {ns : List (List Nat)}, allStr ds = .ok ns → ds = ns.map .str
  | [], ns, e => by
    cases e
    rfl
  | d :: r, ns, e => by
    cases d with
    | str i =>
      obtain ⟨l, h1, h2⟩ := R.bind_ok (r := allStr r) e
      cases h2
      rw [allStr_map h1]
      rfl
    | _ => cases e
theorem allInt_noerr : ∀ {ds : List D} {c : Nat}, allInt ds ≠ .err c := fun {ds c} => allInt_err ds c
theorem allStr_noerr : ∀ {ds : List D} {c : Nat}, allStr ds ≠ .err c
  | [], c, e => nomatch e
  | d :: r, c, e => by
    cases d with
    | str i =>
      have e' : (allStr r).bind (fun l => .ok (i :: l)) = R.err c := e
      cases h : allStr r with
      | ok l => rw [h] at e'; cases e'
      | err c' => exact allStr_noerr h
      | stuck => rw [h] at e'; cases e'
    | _ => cases e
theorem lenSet_keys {ds : List D} {n : Nat} (h : lenSetD ds = .ok n) : ∃ ks, KD ds ks ∧ (ks.foldl addK []).length = n := by
  match ds, h with
  | [], h =>
    cases h
    exact ⟨[], .nil, rfl⟩
  | .int i :: r, h =>
    obtain ⟨ns, h1, h2⟩ := R.bind_ok (r := allInt (.int i :: r)) h
    cases h2
    rw [allInt_map h1]
    refine ⟨_, KD.ints ns, ?_⟩
    rw [(fold_perm (f := (Sum.inl : Int → Key)) (fun a b q => Sum.inl.inj q) ns).length_eq, List.length_map]
  | .str i :: r, h =>
    obtain ⟨ns, h1, h2⟩ := R.bind_ok (r := allStr (.str i :: r)) h
    cases h2
    rw [allStr_map h1]
    refine ⟨_, KD.strs ns, ?_⟩
    rw [(fold_perm (f := fun l => (Sum.inr (tS l) : Key)) (fun a b q => tS_inj (Sum.inr.inj q)) ns).length_eq, List.length_map]
theorem lenSet_err {ds : List D} {c : Nat} : lenSetD ds ≠ .err c := by
  intro h
  match ds, h with
  | .int i :: r, h =>
    have h : (allInt (.int i :: r)).bind (fun l => .ok (once l).length) = R.err c := h
    cases e : allInt (.int i :: r) with
    | ok l => rw [e] at h; cases h
    | err c' => exact allInt_noerr e
    | stuck => rw [e] at h; cases h
  | .str i :: r, h =>
    have h : (allStr (.str i :: r)).bind (fun l => .ok (once l).length) = R.err c := h
    cases e : allStr (.str i :: r) with
    | ok l => rw [e] at h; cases h
    | err c' => exact allStr_noerr e
    | stuck => rw [e] at h; cases h
section
variable {B : Bk} {X : Cx} {N : List Str} {F : Fx} {pins : List (Addr × Obj)} {O : Addr → Prop} {ρ : List Sl} {s s1 s2 s' : Shared} {pos p2 np np2 : Pos} {e : Expr} {x : Ev.X} {xs : List Ev.X}
/-- f(set(e)) -/
theorem of_set {nm : Str} {id : String} {g : D → R D} (S : Ste B X pins O N ρ s) (hm : X.mg nm = none) (hv : bootBuiltins nm = some (.builtin id)) (hg : L2.Gl X nm) (hn : nm ≠ "__name__") (hdb : (nm == ("__debug__" : Str)) = false)
    (hm2 : X.mg "set" = none) (hg2 : L2.Gl X "set") (ha : SA B X N F [e] [x]) (he : starEach [e] X.env = [(false, eval e X.env)])
    (he2 : starEach [.Call (.Name "set" np2) [e] [] p2] X.env = [(false, eval (.Call (.Name "set" np2) [e] [] p2) X.env)])
    (hk : ∀ (s1 : Shared) (u : Value) (d : D), Ste B X pins O N ρ s1 → DV B O s1.heap s1.toks u d → Gw B X (fun Q => wpAny (model X.prog X.w) X.A (call (.type "set") [u]) (fun v s2 => wpAny (model X.prog X.w) X.A (call (.builtin id) [v]) Q X.xe s2) X.xe s1) (g d) (Pst B X pins O s1)) :
    Gw B X (Wm X (eval (.Call (.Name nm np) [.Call (.Name "set" np2) [e] [] p2] [] pos) X.env) s) ((evs F ρ [x]).bind fun l => match l with | [d] => g d | _ => .stuck) (Pst B X pins O s) := by
  refine Gw.bind (W1 := Wm X (spliced (backTo p2 (starEach [e] X.env))) s) (K := fun us s1 Q => wpAny (model X.prog X.w) X.A (call (.type "set") us) (fun v s2 => wpAny (model X.prog X.w) X.A (call (.builtin id) [v]) Q X.xe s2) X.xe s1) wm_mono (fun Q hq => ?_) (ha p2 pins O ρ s S) fun ds us s1 _ p => ?_
  · refine wpAny_Call_Name_kw (ld_blt S.inv hg hm hv (PyProof.Rows.callWith_builtin1 ?_ he2 rfl) hn hdb)
    rw [he2]
    show wpAny _ _ (spliced ((false, eval (.Call (.Name "set" np2) [e] [] p2) X.env) :: backTo pos (starEach [] X.env))) _ _ s
    refine Calls.spliced_cons (wpAny_Call_Name_kw (ld_blt S.inv hg2 hm2 (by decide +kernel) (PyProof.Rows.callWith_type1 (thn hq fun us s1 h1 => thn h1 fun v s2 h2 => Calls.spliced_nil h2) he rfl) (by decide) (by decide)))
  · have S1 := S.step p.1 p.2.1
    have hd := p.2.2
    cases hd with
    | nil => trivial
    | cons h1 t =>
      cases t with
      | cons _ _ => trivial
      | nil => exact (hk s1 _ _ S1 h1).mono (fun Q Q' m w => thn w fun v s w' => thn w' m) fun _ _ _ q => q.later p.2.1
theorem se_lenSet (hc : X.calm = true) (hm : X.mg "len" = none) (hg : L2.Gl X "len") (hm2 : X.mg "set" = none) (hg2 : L2.Gl X "set") (ha : SA B X N F [e] [x]) (he : starEach [e] X.env = [(false, eval e X.env)])
    (he2 : starEach [.Call (.Name "set" np2) [e] [] p2] X.env = [(false, eval (.Call (.Name "set" np2) [e] [] p2) X.env)]) : SE B X N F (.Call (.Name "len" np) [.Call (.Name "set" np2) [e] [] p2] [] pos) (.blt .lenSet [x]) := by
  intro pins O ρ s S
  have e1 : ev F ρ (.blt .lenSet [x]) = (evs F ρ [x]).bind fun l => match l with | [d] => bltD .lenSet [d] | _ => .stuck := by
    show (evs F ρ [x]).bind (fun l => bltD .lenSet l) = _
    cases h : evs F ρ [x] with
    | err c => rfl
    | stuck => rfl
    | ok l =>
      have := evs_len h
      match l, this with
      | [d], _ => rfl
  rw [e1]
  refine of_set S hm PySem.boot_len hg (by decide) (by decide) hm2 hg2 ha he he2 fun s1 u d S1 hd => ?_
  show Gw B X _ ((seqItems d).bind fun l => R.guard (Nat.ble l.length 1000) ((lenSetD l).bind fun n => .ok (D.int n))) _
  cases hi : seqItems d with
  | err c => cases d <;> cases hi
  | stuck => trivial
  | ok ds =>
    refine Gw.guard fun hl => ?_
    show Gw B X _ ((lenSetD ds).bind fun n => .ok (D.int n)) _
    cases hn : lenSetD ds with
    | err c => exact absurd hn lenSet_err
    | stuck => trivial
    | ok n =>
      obtain ⟨ks, h1, h2⟩ := lenSet_keys hn
      refine thn (mk_set hc S1 hd hi (Nat.le_of_ble_eq_true hl) h1) fun v s2 ⟨a, ea, I2, l2, R⟩ => ?_
      subst ea
      have S2 := S1.step I2 l2
      obtain ⟨o, es, ep, t, ho, hex, hdd, gd, pL, nd, hb, hft, hr, hled⟩ := R
      have hsz : es.size = n := by rw [← h2, ← pL.length_eq, List.length_map, Array.length_toList]
      have hlt : (es.size : Int) < 2 ^ 63 := by
        have : scanBound < 2 ^ 62 := by decide
        omega
      refine call_len_set ho hex hdd hft hlt ?_
      rw [hsz]
      exact (pst_int S2 (by omega)).later l2
theorem sortSet_err {ds : List D} {c : Nat} : sortSetD ds ≠ .err c := by
  intro h
  match ds, h with
  | .int i :: r, h =>
    have h : (allInt (.int i :: r)).bind (fun l => .ok ((sortI (once l)).map D.int)) = R.err c := h
    cases e : allInt (.int i :: r) with
    | ok l => rw [e] at h; cases h
    | err c' => exact allInt_noerr e
    | stuck => rw [e] at h; cases h
  | .str i :: r, h =>
    have h : (allStr (.str i :: r)).bind (fun l => .ok ((sortS (once l)).map D.str)) = R.err c := h
    cases e : allStr (.str i :: r) with
    | ok l => rw [e] at h; cases h
    | err c' => exact allStr_noerr e
    | stuck => rw [e] at h; cases h
theorem sortSet_cases {ds out : List D} (h : sortSetD ds = .ok out) : (∃ ns : List Int, ds = ns.map .int ∧ out = (sortI (once ns)).map .int) ∨ ∃ ns : List (List Nat), ds = ns.map .str ∧ out = (sortS (once ns)).map .str := by
  match ds, h with
  | [], h =>
    cases h
    exact .inl ⟨[], rfl, rfl⟩
  | .int i :: r, h =>
    obtain ⟨ns, h1, h2⟩ := R.bind_ok (r := allInt (.int i :: r)) h
    cases h2
    exact .inl ⟨ns, allInt_map h1, rfl⟩
  | .str i :: r, h =>
    obtain ⟨ns, h1, h2⟩ := R.bind_ok (r := allStr (.str i :: r)) h
    cases h2
    exact .inr ⟨ns, allStr_map h1, rfl⟩
theorem once_len {α : Type} [BEq α] : ∀ l : List α, (once l).length ≤ l.length
  | [] => Nat.le_refl _
  | a :: l => by
    unfold once
    have := once_len l
    split
    · simp; omega
    · simp; omega
theorem se_sortedSet (hc : X.calm = true) (hu : X.A.units + 66 < cLine) (hm : X.mg "sorted" = none) (hg : L2.Gl X "sorted") (hm2 : X.mg "set" = none) (hg2 : L2.Gl X "set") (ha : SA B X N F [e] [x]) (he : starEach [e] X.env = [(false, eval e X.env)])
    (he2 : starEach [.Call (.Name "set" np2) [e] [] p2] X.env = [(false, eval (.Call (.Name "set" np2) [e] [] p2) X.env)]) : SE B X N F (.Call (.Name "sorted" np) [.Call (.Name "set" np2) [e] [] p2] [] pos) (.blt .sortedSet [x]) := by
  intro pins O ρ s S
  have e1 : ev F ρ (.blt .sortedSet [x]) = (evs F ρ [x]).bind fun l => match l with | [d] => bltD .sortedSet [d] | _ => .stuck := by
    show (evs F ρ [x]).bind (fun l => bltD .sortedSet l) = _
    cases h : evs F ρ [x] with
    | err c => rfl
    | stuck => rfl
    | ok l =>
      have := evs_len h
      match l, this with
      | [d], _ => rfl
  rw [e1]
  refine of_set (id := "sorted") S hm (by decide +kernel) hg (by decide) (by decide) hm2 hg2 ha he he2 fun s1 u d S1 hd => ?_
  show Gw B X _ ((seqItems d).bind fun l => R.guard (Nat.ble l.length 1000) ((sortSetD l).bind fun l' => .ok (D.list l'))) _
  cases hi : seqItems d with
  | err c => cases d <;> cases hi
  | stuck => trivial
  | ok ds =>
    refine Gw.guard fun hl => ?_
    have hl := Nat.le_of_ble_eq_true hl
    show Gw B X _ ((sortSetD ds).bind fun l' => .ok (D.list l')) _
    cases hn : sortSetD ds with
    | err c => exact absurd hn sortSet_err
    | stuck => trivial
    | ok out =>
      rcases sortSet_cases hn with ⟨ns, h1, h2⟩ | ⟨ns, h1, h2⟩
      · subst h1 h2
        refine thn (mk_set hc S1 hd hi hl (KD.ints ns)) fun v s2 ⟨a, ea, I2, l2, R⟩ => ?_
        subst ea
        have S2 := S1.step I2 l2
        have hz : (once ns).length ≤ sizeLine := by
          have := once_len ns
          rw [List.length_map] at hl
          rw [sizeLine_eq]
          omega
        refine thn (sorted_ints S2 hu hz fun E Q hQ => collect_keys (g := D.int) (f := Sum.inl) (l := ns) hc S2 (fun d hd => ?_) (fun b v h => ?_) (fun a b q => Sum.inl.inj q) R (fold_perm (fun a b q => Sum.inl.inj q) ns) E Q hQ) fun v s3 p => p.later l2
        · obtain ⟨b, hb, rfl⟩ := List.mem_map.mp hd
          exact ⟨b, hb, rfl⟩
        · cases h
          exact keyIs_int _ _
      · subst h1 h2
        refine thn (mk_set hc S1 hd hi hl (KD.strs ns)) fun v s2 ⟨a, ea, I2, l2, R⟩ => ?_
        subst ea
        have S2 := S1.step I2 l2
        have hz : (once ns).length ≤ sizeLine := by
          have := once_len ns
          rw [List.length_map] at hl
          rw [sizeLine_eq]
          omega
        refine thn (sorted_strs S2 hu hz fun E Q hQ => collect_keys (g := D.str) (f := fun l => Sum.inr (tS l)) (l := ns) hc S2 (fun d hd => ?_) (fun b v h => ?_) (fun a b q => tS_inj (Sum.inr.inj q)) R (fold_perm (fun a b q => tS_inj (Sum.inr.inj q)) ns) E Q hQ) fun v s3 p => p.later l2
        · obtain ⟨b, hb, rfl⟩ := List.mem_map.mp hd
          exact ⟨b, hb, rfl⟩
        · cases h
          exact keyIs_str _ _
end
end Ev
namespace Ev
open PySem PySem.Spec PyProof.Rows L2
def plainT : Expr → Bool
  | .Constant _ _ _ => true
  | .Name _ _ => true
  | .Call _ _ _ _ => true
  | .Subscript _ _ _ => true
  | .List _ _ => true
  | .Tuple _ _ _ => true
  | .BinOp _ _ _ _ => true
  | .ListComp _ _ _ _ => true
  | .UnaryOp .USub _ _ => true
  | _ => false
theorem plainT_ok {e : Expr} {env : Env} (h : plainT e = true) : ∀ whole, isTrue e env whole = (do let v ← whole; standAt e.pos; holding [v] (truthy v)) := by
  intro whole
  cases e with
  | UnaryOp op a p => cases op <;> first | (cases h; done) | rfl
  | _ => first | (cases h; done) | rfl
def plainI : Expr → Bool
  | .Constant _ _ _ => true
  | .Name _ _ => true
  | .Call _ _ _ _ => true
  | .Subscript _ _ _ => true
  | .BinOp _ _ _ _ => true
  | .UnaryOp _ _ _ => true
  | _ => false
theorem plainI_ok {b : Expr} (h : plainI b = true) : PlainIx b := by
  intro o i
  cases b <;> first | (cases h; done) | rfl
def notStar : Expr → Bool
  | .Starred _ _ => false
  | _ => true
theorem notStar_ok {e : Expr} {es : List Expr} {env : Env} (h : notStar e = true) : starEach (e :: es) env = (false, eval e env) :: starEach es env := by
  cases e <;> first | (cases h; done) | rfl
theorem slice_plain {lo hi : Option Expr} {p2 : Pos} : ∀ v u, subscripted (.Slice lo hi none p2) false v u = operate [u, v] (getItem v u) := by
  intro v u
  rfl
def baseOk : Expr → Bool
  | .Name _ _ => true
  | .Constant _ _ _ => true
  | .List _ _ => true
  | .Subscript _ _ _ => true
  | .BinOp _ _ _ _ => true
  | _ => false
theorem baseOk_ok {e : Expr} {n : Str} {env : Env} (h : baseOk e = true) : attributeBase e n env (eval e env) = eval e env := by
  cases e <;> first | (cases h; done) | rfl
theorem fold_ok {e : Expr} (h : plainT e = true) : ∀ env x, foldedSetIterable e env x = pure x := by
  intro env x
  cases e <;> first | (cases h; done) | rfl
theorem callv_ok {g : Expr} {es : List Expr} {pos : Pos} {env : Env} (h : (match g with | .Subscript _ _ _ => true | _ => false) = true) : eval (.Call g es [] pos) env = (do callWith pos (← eval g env) [] (backTo pos (starEach es env)) (backToKw pos (keywordEach [] env))) := by
  cases g <;> first | (cases h; done) | rfl
theorem back_plain {pos : Pos} {env : Env} : ∀ {es : List Expr}, es.all notStar = true → (backTo pos (starEach es env)).any (·.1) = false
  | [], _ => rfl
  | e :: es, h => by
    rw [List.all_cons, Bool.and_eq_true] at h
    rw [notStar_ok h.1]
    show (false || (backTo pos (starEach es env)).any (·.1)) = false
    rw [back_plain h.2]
    rfl
theorem swaps_plain {e : Expr} {t : Option Expr} {l : Nat} {env : Env} (h : (match e with | .ListComp _ _ _ _ => false | .SetComp _ _ _ _ => false | .DictComp _ _ _ _ _ => false | _ => true) = true) : swapsWith e t l env = pure false := by
  cases e <;> first | (cases h; done) | rfl
/-- a name of the module, or of the built-ins -/
inductive Gv where
  | int (i : Int) | str (l : List Nat) | fn (f : Nat) | cls (c : Nat) | blt
def GvOk (B : Bk) (X : Cx) (n : Str) : Gv → Prop
  | .int i => ∃ t, X.mg n = some (.int i t)
  | .str l => ∃ t, X.mg n = some (.str (tS l) t)
  | .fn f => X.mg n = some (.ref (B.fa f))
  | .cls c => X.mg n = some (.ref (B.ca c)) ∧ c < B.nc
  | .blt => X.mg n = none
/-- what the context must have -/
structure Good (B : Bk) (X : Cx) (F : Fx) (G : List (Str × Gv)) (sc : Scope) (cm : Bool) : Prop where
  scope : X.env.scope = sc
  tab : ∀ n g, G.lookup n = some g → GvOk B X n g
  calm : cm = true → X.calm = true
  cal : cm = true → ∃ k, Cal B X F k
  hu : X.A.units + 66 < cLine
  exc : ExcK B X.K F.sub
  keep : ∀ f, PySem.W.keepIn X.K (.ref (B.fa f)) = true
def glb (sc : Scope) (n : Str) : Bool := match sc.names.lookup n with | some .globalImplicit => true | _ => false
def vis (sc : Scope) (n : Str) : Bool := match sc.names.lookup n with | some .local => true | some .cell => true | some .free => true | _ => false
def okn (n : Str) : Bool := !(n == ("__debug__" : Str)) && !(n == ("__classdict__" : Str))
def isB (G : List (Str × Gv)) (n : Str) : Bool := match G.lookup n with | some .blt => true | _ => false
section
variable {B : Bk} {X : Cx} {N : List Str} {F : Fx} {G : List (Str × Gv)} {sc : Scope} {cm : Bool} {pins : List (Addr × Obj)} {O : Addr → Prop} {ρ : List Sl} {s s1 s2 s' : Shared} {pos p2 np np2 : Pos} {a e : Expr} {x xa : Ev.X} {xs : List Ev.X}
theorem glb_ok {n : Str} (g : Good B X F G sc cm) (h : glb sc n = true) : L2.Gl X n := by
  unfold glb at h
  show X.env.scope.names.lookup n = some .globalImplicit
  rw [g.scope]
  split at h
  · assumption
  · cases h
theorem vis_ok {n : Str} (g : Good B X F G sc cm) (h : vis sc n = true) : Vis X.env.scope n := by
  unfold vis at h
  rw [g.scope]
  split at h
  · exact .inl (by assumption)
  · exact .inr (.inl (by assumption))
  · exact .inr (.inr (by assumption))
  · cases h
theorem okn_ok {n : Str} (h : okn n = true) : (n == ("__debug__" : Str)) = false ∧ (n == ("__classdict__" : Str)) = false := by
  unfold okn at h
  rw [Bool.and_eq_true] at h
  exact ⟨by simpa using h.1, by simpa using h.2⟩
theorem isB_ok {n : Str} (g : Good B X F G sc cm) (h : isB G n = true) : X.mg n = none := by
  unfold isB at h
  split at h
  · rename_i q
    exact g.tab n _ q
  · cases h
/-- a block has it too -/
theorem Good.blk {scope : Scope} {s3 : Shared} {ex : List Addr} (g : Good B X F G sc cm) : Good B (bCx scope X s3 ex) F G (relS scope sc) cm := by
  refine ⟨by rw [← g.scope]; rfl, fun n v h => ?_, g.calm, fun h => ?_, g.hu, g.exc, g.keep⟩
  · have := g.tab n v h
    cases v <;> exact this
  · obtain ⟨k, c⟩ := g.cal h
    exact ⟨k, c.room, c.fns, c.only⟩
/-- isinstance(a, T) -/
theorem se_isi {ty : Ty} {T : Str} {tp : Pos} {vT : Value} (ha : SE B X N F a xa) (hm : X.mg "isinstance" = none) (hg : L2.Gl X "isinstance") (hs : notStar a = true)
    (hld : ∀ (s1 : Shared) (Q : Value → Shared → Prop), Inv X pins [] X.H_0 s1 → Q vT s1 → wpAny (model X.prog X.w) X.A (eval (.Name T tp) X.env) Q X.xe s1)
    (hk : ∀ (s1 : Shared) (v : Value) (d : D), Ste B X pins O N ρ s1 → DV B O s1.heap s1.toks v d → Gw B X (Wm X (call (.builtin "isinstance") [v, vT]) s1) ((isiD F.sub d ty).bind fun k => .ok (.bool k)) (Pst B X pins O s1)) (S : Ste B X pins O N ρ s) :
    Gw B X (Wm X (eval (.Call (.Name "isinstance" np) [a, .Name T tp] [] pos) X.env) s) (ev F ρ (.isi xa ty)) (Pst B X pins O s) := by
  show Gw B X _ ((ev F ρ xa).bind fun x => (isiD F.sub x ty).bind fun k => .ok (D.bool k)) _
  refine Gw.bind (W1 := Wm X (eval a X.env) s) (K := fun v s1 Q => wpAny (model X.prog X.w) X.A (eval (.Name T tp) X.env) (fun t s2 => wpAny (model X.prog X.w) X.A (call (.builtin "isinstance") [v, t]) Q X.xe s2) X.xe s1) wm_mono (fun Q hq => ?_) (ha pins O ρ s S) fun d v s1 _ p => ?_
  · refine wpAny_Call_Name_kw (ld_blt S.inv hg hm (u := .builtin "isinstance") (by decide +kernel) (PyProof.Rows.callWith_builtin1 ?_ (notStar_ok hs) rfl) (by decide) (by decide))
    rw [notStar_ok hs]
    show wpAny _ _ (spliced ((false, eval a X.env) :: backTo pos (starEach [.Name T tp] X.env))) _ _ s
    refine Calls.spliced_cons (thn hq fun v s1 h1 => ?_)
    show wpAny _ _ (spliced ((false, eval (.Name T tp) X.env) :: backTo pos (starEach [] X.env))) _ _ s1
    exact Calls.spliced_cons (thn h1 fun t s2 h2 => Calls.spliced_nil h2)
  · have S1 := S.step p.1 p.2.1
    exact ((hk s1 v d S1 p.2.2).later wm_mono p.2.1).rule fun Q hq => hld s1 _ S1.inv hq
theorem se_isiT {ty : Ty} {T : Str} {tp : Pos} (ha : SE B X N F a xa) (ht : isP ty = true) (hm : X.mg "isinstance" = none) (hg : L2.Gl X "isinstance") (hmT : X.mg T = none) (hgT : L2.Gl X T) (hT : bootBuiltins T = some (.type (tyS ty))) (hTn : T ≠ "__name__") (hTd : (T == ("__debug__" : Str)) = false) (hs : notStar a = true) :
    SE B X N F (.Call (.Name "isinstance" np) [a, .Name T tp] [] pos) (.isi xa ty) := fun pins O ρ s S =>
  se_isi ha hm hg hs (fun s1 Q I q => ld_blt I hgT hmT hT q hTn hTd) (fun s1 v d S1 hd => isi_ok S1 hd ht) S
theorem se_isiC {c : Nat} {T : Str} {tp : Pos} (ha : SE B X N F a xa) (E : ExcK B X.K F.sub) (hc : c < B.nc) (hm : X.mg "isinstance" = none) (hg : L2.Gl X "isinstance") (hmT : X.mg T = some (.ref (B.ca c))) (hgT : L2.Gl X T) (hTd : (T == ("__debug__" : Str)) = false) (hs : notStar a = true) :
    SE B X N F (.Call (.Name "isinstance" np) [a, .Name T tp] [] pos) (.isi xa (.cls c)) := fun pins O ρ s S =>
  se_isi ha hm hg hs (fun s1 Q I q => ld_glob I hgT hmT q hTd) (fun s1 v d S1 hd => isi_cls E S1 hc hd) S
end
end Ev
namespace Ev
open PySem PySem.Spec PyProof.Rows L2
def tst : Expr → Bool
  | .Compare _ _ _ _ => true
  | .BoolOp _ _ _ => true
  | .UnaryOp .Not _ _ => true
  | e => plainT e
def isBo : Expr → Bool
  | .BoolOp _ _ _ => true
  | _ => false
def lenOk (l : List Nat) : Bool := Nat.ble l.length 16777216 && okc l
def gStrOk : List Nat → Bool
  | [c] => c == 32
  | _ => true
def ckCon (G : List (Str × Gv)) (sc : Scope) (d : D) (e : Expr) : Bool := match e with
  | .Constant c _ _ => (match d, c with
      | .int i, .int j => i == j
      | .bool a, .bool b => a == b
      | .none, .none => true
      | .str l, .str x => decide (x = tS l) && lenOk l
      | _, _ => false)
  | .Name x _ => glb sc x && okn x && (match d, G.lookup x with
      | .int i, some (.int j) => i == j
      | .str l, some (.str m) => decide (l = m) && lenOk l && gStrOk l
      | .fn f, some (.fn g) => f == g
      | _, _ => false)
  | _ => false
def isSub : Expr → Bool
  | .Subscript _ _ _ => true
  | _ => false
def fnIs (G : List (Str × Gv)) (n : Str) (f : Nat) : Bool := match G.lookup n with | some (.fn g) => f == g | _ => false
/-- plain built-ins: name, does it need a calm context -/
def bltN : Blt → Option (Str × Bool)
  | .len => some ("len", false)
  | .tuple => some ("tuple", false)
  | .list => some ("list", false)
  | .sum => some ("sum", true)
  | .all => some ("all", true)
  | .any => some ("any", true)
  | _ => none
def mthN : Mth → Bool
  | .join => true
  | .index => true
  | _ => false
def tyN : Ty → Option Str
  | .int => some "int"
  | .bool => some "bool"
  | .str => some "str"
  | .tuple => some "tuple"
  | .list => some "list"
  | .cls _ => none
def clsIs (G : List (Str × Gv)) (n : Str) (c : Nat) : Bool := match G.lookup n with | some (.cls d) => c == d | _ => false
/-- the names of a target -/
def nmsOf : List Expr → Option (List Str)
  | [] => some []
  | .Name x _ :: r => match nmsOf r with | some xs => some (x :: xs) | none => none
  | _ => none
def tgOf : Expr → Option (List Str)
  | .Name x _ => some [x]
  | .Tuple es _ _ => match nmsOf es with | some xs => (match xs.length == 1 with | true => none | false => some xs) | none => none
  | _ => none
def isTup1 : Expr → Bool
  | .Tuple _ _ _ => true
  | _ => false
def nodupB : List Str → Bool
  | [] => true
  | x :: r => !(decide (x ∈ r)) && nodupB r
/-- a comprehension's block -/
def blkB (N : List Str) (sc scope : Scope) (ts : List Str) : Bool :=
  (match scope.kind with | .function => true | _ => false) && (scope.names.all fun y => decide (scope.names.lookup y.1 = some y.2)) &&
  (scope.names.all fun y => match y.2 with
    | .free => (match sc.names.lookup y.1 with | some .cell => true | some .free => true | _ => false)
    | .local => decide (y.1 ∈ ts) || decide (y.1 ∉ N)
    | .cell => decide (y.1 ∈ ts) || decide (y.1 ∉ N)
    | _ => true) &&
  (ts.all fun x => match scope.names.lookup x with | some .local => true | some .cell => true | _ => false)
mutual
def ckX (G : List (Str × Gv)) (cm : Bool) : Ev.X → Scope → List Str → Expr → Bool
  | .var i => fun sc N e => match e with | .Name x _ => decide (x ∈ N) && (ix x N == i) && vis sc x && okn x | _ => false
  | .con d => fun sc N e => ckCon G sc d e
  | .bin o a b => fun sc N e => match e with | .BinOp l op r _ => decide (op = bOp o) && ckX G cm a sc N l && ckX G cm b sc N r | _ => false
  | .neg a => fun sc N e => match e with | .UnaryOp .USub l _ => ckX G cm a sc N l | _ => false
  | .not_ a => fun sc N e => match e with | .UnaryOp .Not l _ => tst l && ckX G cm a sc N l | _ => false
  | .and_ a b => fun sc N e => match e with
      | .BoolOp .And [l, r] _ => tst l && tst r && ckX G cm a sc N l && ckX G cm b sc N r
      | .BoolOp .And (l :: r :: t :: rest) p => tst l && ckX G cm a sc N l && ckX G cm b sc N (.BoolOp .And (r :: t :: rest) p)
      | _ => false
  | .or_ a b => fun sc N e => match e with
      | .BoolOp .Or [l, r] _ => tst l && tst r && ckX G cm a sc N l && ckX G cm b sc N r
      | .BoolOp .Or (l :: r :: t :: rest) p => tst l && ckX G cm a sc N l && ckX G cm b sc N (.BoolOp .Or (r :: t :: rest) p)
      | _ => false
  | .ite c a b => fun sc N e => match e with | .IfExp t l r _ => tst t && ckX G cm c sc N t && ckX G cm a sc N l && ckX G cm b sc N r | _ => false
  | .cmp o a b => fun sc N e => match e with | .Compare l [op] [r] _ => decide (op = cOp o) && !behindInMarks op r && ckX G cm a sc N l && ckX G cm b sc N r | _ => false
  | .chain o o2 a b c => fun sc N e => match e with
      | .Compare l [op, op2] [r, t] _ => decide (op = cOp o) && decide (op2 = cOp o2) && !lastMarks [op, op2] [r, t] && ckX G cm a sc N l && ckX G cm b sc N r && ckX G cm c sc N t
      | _ => false
  | .list es => fun sc N e => match e with | .List l _ => Nat.ble es.length 1000 && ckXs G cm es sc N l | _ => false
  | .tuple es => fun sc N e => match e with | .Tuple l _ _ => Nat.ble es.length 1000 && ckXs G cm es sc N l | _ => false
  | .dict _ _ => fun _ _ _ => false
  | .repl a o => fun sc N e => match e with
      | .Call (.Attribute l nm apos) [e1, .Constant (.str z) _ _] [] cpos => decide (nm = "replace") && decide (z = tS []) && baseOk l && (apos.endLine == cpos.line) && notStar e1 && ckX G cm a sc N l && ckX G cm o sc N e1
      | _ => false
  | .sub a i => fun sc N e => match e with | .Subscript l r _ => plainI r && ckX G cm a sc N l && ckX G cm i sc N r | _ => false
  | .slice a lo hi => fun sc N e => match e with
      | .Subscript l (.Slice x y none _) _ => ckX G cm a sc N l && ckO G cm lo sc N x && ckO G cm hi sc N y
      | _ => false
  | .rev _ => fun _ _ _ => false
  | .call f es => fun sc N e => match e with
      | .Call (.Name n _) (e1 :: r) [] _ => cm && fnIs G n f && glb sc n && okn n && ckXs G cm es sc N (e1 :: r)
      | _ => false
  | .callv g es => fun sc N e => match e with
      | .Call h (e1 :: r) [] _ => cm && isSub h && ckX G cm g sc N h && ckXs G cm es sc N (e1 :: r)
      | _ => false
  | .blt b es => fun sc N e => match e with
      | .Call (.Name n _) [.Call (.Name n2 n2p) [a] [] n3p] [] _ => (match b with
          | .lenSet => cm && decide (n = "len") && decide (n2 = "set") && isB G "len" && isB G "set" && glb sc "len" && glb sc "set" && ckXs G cm es sc N [a]
          | .sortedSet => cm && decide (n = "sorted") && decide (n2 = "set") && isB G "sorted" && isB G "set" && glb sc "sorted" && glb sc "set" && ckXs G cm es sc N [a]
          | _ => (match bltN b with | some (m, c) => decide (n = m) && (cm || !c) && isB G n && glb sc n && ckXs G cm es sc N [.Call (.Name n2 n2p) [a] [] n3p] | none => false))
      | .Call (.Name n _) (e1 :: r) [] _ => (match bltN b with | some (m, c) => decide (n = m) && (cm || !c) && isB G n && glb sc n && ckXs G cm es sc N (e1 :: r) | none => false)
      | _ => false
  | .isi a t => fun sc N e => match e with
      | .Call (.Name n _) [l, .Name T _] [] _ => decide (n = "isinstance") && isB G "isinstance" && glb sc "isinstance" && glb sc T && okn T && notStar l && ckX G cm a sc N l && (match t with
          | .cls c => clsIs G T c
          | t => (match tyN t with | some m => decide (T = m) && isB G T | none => false))
      | _ => false
  | .meth m a es => fun sc N e => match e with
      | .Call (.Attribute l nm apos) (e1 :: r) [] cpos => mthN m && decide (nm = mName m) && baseOk l && (apos.endLine == cpos.line) && Nat.blt r.length 25 && ckX G cm a sc N l && ckXs G cm es sc N (e1 :: r)
      | _ => false
  | .lc elt (.mk n it ifs) => fun sc N e => match e with
      | .ListComp el [g] scope _ => (match tgOf g.target with
          | some ts => cm && (n == ts.length) && nodupB ts && blkB N sc scope ts && (g.is_async == 0) && ckI G cm it sc N g.target g.iter && ckF G cm ifs (relS scope sc) (ts ++ N) g.ifs && ckX G cm elt (relS scope sc) (ts ++ N) el
          | none => false)
      | _ => false
  | .lc2 elt (.mk n it ifs) (.mk n2 it2 ifs2) => fun sc N e => match e with
      | .ListComp el [g, g2] scope _ => (match tgOf g.target, tgOf g2.target with
          | some ts, some ts2 => cm && (n == ts.length) && (n2 == ts2.length) && nodupB (ts ++ ts2) && blkB N sc scope (ts ++ ts2) && (g.is_async == 0) && (g2.is_async == 0) && ckI G cm it sc N g.target g.iter &&
              ckF G cm ifs (relS scope sc) (ts ++ (ts2 ++ N)) g.ifs && ckI G cm it2 (relS scope sc) (ts ++ (ts2 ++ N)) g2.target g2.iter && ckF G cm ifs2 (relS scope sc) (ts ++ (ts2 ++ N)) g2.ifs && ckX G cm elt (relS scope sc) (ts ++ (ts2 ++ N)) el
          | _, _ => false)
      | _ => false
  | .dc2 _ _ _ _ => fun _ _ _ => false
def ckXs (G : List (Str × Gv)) (cm : Bool) : List Ev.X → Scope → List Str → List Expr → Bool
  | [] => fun _ _ es => match es with | [] => true | _ => false
  | x :: xs => fun sc N es => match es with | e :: r => notStar e && ckX G cm x sc N e && ckXs G cm xs sc N r | _ => false
def ckO (G : List (Str × Gv)) (cm : Bool) : Option Ev.X → Scope → List Str → Option Expr → Bool
  | none => fun _ _ e => match e with | none => true | _ => false
  | some x => fun sc N e => match e with | some e => ckX G cm x sc N e | none => false
/-- tests of a clause -/
def ckF (G : List (Str × Gv)) (cm : Bool) : Option Ev.X → Scope → List Str → List Expr → Bool
  | none => fun _ _ e => match e with | [] => true | _ => false
  | some x => fun sc N e => match e with | [e] => tst e && ckX G cm x sc N e | _ => false
def ckI (G : List (Str × Gv)) (cm : Bool) : Ev.It → Scope → List Str → Expr → Expr → Bool
  | .val a => fun sc N _ e => plainT e && ckX G cm a sc N e
  | .rng a => fun sc N _ e => match e with | .Call (.Name n _) [l] [] _ => decide (n = "range") && isB G "range" && glb sc "range" && notStar l && ckX G cm a sc N l | _ => false
  | .rng2 a b => fun sc N _ e => match e with | .Call (.Name n _) [l, r] [] _ => decide (n = "range") && isB G "range" && glb sc "range" && notStar l && notStar r && ckX G cm a sc N l && ckX G cm b sc N r | _ => false
  | .enum a => fun sc N t e => match e with | .Call (.Name n _) [l] [] _ => isTup1 t && decide (n = "enumerate") && isB G "enumerate" && glb sc "enumerate" && notStar l && ckX G cm a sc N l | _ => false
  | .zip a b => fun sc N t e => match e with | .Call (.Name n _) [l, r] [] _ => isTup1 t && decide (n = "zip") && isB G "zip" && glb sc "zip" && notStar l && notStar r && ckX G cm a sc N l && ckX G cm b sc N r | _ => false
end
end Ev
namespace Ev
open PySem PySem.Spec PyProof.Rows L2
/-- the expression does what the IR says: as a value, as a test -/
structure Snd (B : Bk) (X : Cx) (N : List Str) (F : Fx) (e : Expr) (x : Ev.X) : Prop where
  se : SE B X N F e x
  st : tst e = true → ST B X N F e x
  stw : isBo e = true → STw B X N F e x
section
variable {B : Bk} {X : Cx} {N : List Str} {F : Fx} {G : List (Str × Gv)} {sc : Scope} {cm : Bool} {e : Expr} {x : Ev.X}
theorem Snd.val (h : SE B X N F e x) (hp : plainT e = true) : Snd B X N F e x := ⟨h, fun _ => st_val h (plainT_ok hp), fun z => by cases e <;> first | (cases z; done) | (cases hp; done)⟩
theorem and4 {a b : Bool} (h : (a && b) = true) : a = true ∧ b = true := by simpa using h
theorem lenOk_ok {l : List Nat} (h : lenOk l = true) : l.length ≤ sizeLine ∧ okc l = true := by
  obtain ⟨h1, h2⟩ := and4 h
  exact ⟨by rw [sizeLine_eq]; exact Nat.le_of_ble_eq_true h1, h2⟩
theorem ckCon_ok {d : D} (g : Good B X F G sc cm) (h : ckCon G sc d e = true) : Snd B X N F e (.con d) := by
  cases e with
  | Constant c k p =>
    refine Snd.val ?_ rfl
    cases d with
    | int i =>
      cases c with
      | int j =>
        have : i = j := by simpa [ckCon] using h
        subst this
        exact se_int
      | _ => cases h
    | bool i =>
      cases c with
      | bool j =>
        have : i = j := by simpa [ckCon] using h
        subst this
        exact se_bool
      | _ => cases h
    | none =>
      cases c with
      | none => exact se_none
      | _ => cases h
    | str l =>
      cases c with
      | str y =>
        obtain ⟨h1, h2⟩ := and4 h
        exact se_str (of_decide_eq_true h1) (lenOk_ok h2)
      | _ => cases h
    | _ => cases c <;> cases h
  | Name y p =>
    refine Snd.val ?_ rfl
    obtain ⟨h0, h3⟩ := and4 (a := glb sc y && okn y) h
    obtain ⟨h1, h2⟩ := and4 h0
    have hg := glb_ok g h1
    have hd := (okn_ok h2).1
    cases hl : G.lookup y with
    | none => rw [hl] at h3; cases d <;> cases h3
    | some v =>
      have ht := g.tab y v hl
      rw [hl] at h3
      cases d with
      | int i =>
        cases v with
        | int j =>
          have : i = j := by simpa using h3
          subst this
          exact se_gint ht hg hd
        | _ => cases h3
      | str l =>
        cases v with
        | str m =>
          obtain ⟨h4, h5⟩ := and4 h3
          obtain ⟨h6, h7⟩ := and4 h4
          have : l = m := of_decide_eq_true h6
          subst this
          refine se_gstr ht (fun c ec => ?_) (lenOk_ok h7) hg hd
          subst ec
          simpa [gStrOk] using h5
        | _ => cases h3
      | fn f =>
        cases v with
        | fn k =>
          have : f = k := by simpa using h3
          subst this
          exact se_fn ht hg hd
        | _ => cases h3
      | _ => cases v <;> cases h3
  | _ => cases h
theorem nmsOf_ok : ∀ {es : List Expr} {xs : List Str}, nmsOf es = some xs → Nms es xs
  | [], xs, h => by
    cases h
    exact .nil
  | e :: es, xs, h => by
    cases e with
    | Name y p =>
      have h' : (match nmsOf es with | some xs => some (y :: xs) | none => none) = some xs := h
      cases hr : nmsOf es with
      | none => rw [hr] at h'; cases h'
      | some ys =>
        rw [hr] at h'
        cases h'
        exact .cons (nmsOf_ok hr)
    | _ => cases h
theorem tgOf_ok {tg : Expr} {ts : List Str} (h : tgOf tg = some ts) : Tg tg ts := by
  cases tg with
  | Name y p =>
    cases h
    exact .one y p
  | Tuple es k p =>
    have h' : (match nmsOf es with | some xs => (match xs.length == 1 with | true => none | false => some xs) | none => none) = some ts := h
    cases hr : nmsOf es with
    | none => rw [hr] at h'; cases h'
    | some ys =>
      rw [hr] at h'
      cases hl : ys.length == 1 with
      | true => simp only [hl] at h'; cases h'
      | false =>
        simp only [hl] at h'
        cases h'
        exact .tup (nmsOf_ok hr) (by simpa using hl)
  | _ => cases h
theorem tgOf_tup {tg : Expr} {ts : List Str} (h : tgOf tg = some ts) (ht : isTup1 tg = true) : ts.length ≠ 1 ∧ ∃ es k p, tg = .Tuple es k p := by
  have t := tgOf_ok h
  cases t with
  | one y p => cases ht
  | tup nm hl => exact ⟨hl, _, _, _, rfl⟩
theorem nodupB_ok : ∀ {l : List Str}, nodupB l = true → l.Nodup
  | [], _ => List.nodup_nil
  | y :: l, h => by
    obtain ⟨h1, h2⟩ := and4 h
    exact List.nodup_cons.mpr ⟨by simpa using h1, nodupB_ok h2⟩
theorem blkB_ok {scope : Scope} {ts : List Str} (h : blkB N sc scope ts = true) : BlkS N sc scope ts := by
  unfold blkB at h
  simp only [Bool.and_eq_true, List.all_eq_true] at h
  obtain ⟨⟨⟨h1, h2⟩, h3⟩, h4⟩ := h
  refine ⟨?_, fun y hy => of_decide_eq_true (h2 y hy), fun y hy e => ?_, fun y hy e => ?_, fun y hy => ?_⟩
  · split at h1
    · assumption
    · cases h1
  · have q := h3 y hy
    simp only [e] at q
    split at q <;> first | exact .inl (by assumption) | exact .inr (by assumption) | cases q
  · have q := h3 y hy
    rcases e with e | e <;> (simp only [e, Bool.or_eq_true, decide_eq_true_eq] at q; exact q)
  · have q := h4 y hy
    split at q <;> first | exact .inl (by assumption) | exact .inr (by assumption) | cases q
theorem fnIs_ok {n : Str} {f : Nat} (g : Good B X F G sc cm) (h : fnIs G n f = true) : X.mg n = some (.ref (B.fa f)) := by
  unfold fnIs at h
  split at h
  · rename_i k q
    have : f = k := by simpa using h
    subst this
    exact g.tab n _ q
  · cases h
theorem clsIs_ok {n : Str} {c : Nat} (g : Good B X F G sc cm) (h : clsIs G n c = true) : X.mg n = some (.ref (B.ca c)) ∧ c < B.nc := by
  unfold clsIs at h
  split at h
  · rename_i k q
    have : c = k := by simpa using h
    subst this
    exact g.tab n _ q
  · cases h
end
end Ev
namespace Ev
open PySem PySem.Spec PyProof.Rows L2
section
variable {B : Bk} {F : Fx} {G : List (Str × Gv)} {cm : Bool}
theorem sa_plain {X : Cx} {N : List Str} {es : List Expr} {xs : List Ev.X} (h : SA B X N F es xs) : SA B X N F es xs := h
theorem few_ok {env : Env} {cpos : Pos} {es : List Expr} (h : es.all notStar = true) (hl : es.length < 28) :
    ((backTo cpos (starEach es env)).all (fun x => !x.1) && (backToKw cpos (keywordEach [] env)).all (fun x => x.1.isSome) && decide (es.length + ([] : List Keyword).length + (if ([] : List Keyword).isEmpty then 0 else 1) < 30)) = true := by
  have h1 : (backTo cpos (starEach es env)).all (fun x => !x.1) = true := by
    have := back_plain (pos := cpos) (env := env) h
    rw [List.all_eq_true]
    intro y hy
    rw [List.any_eq_false] at this
    have := this y hy
    simpa using this
  rw [h1]
  have h2 : (backToKw cpos (keywordEach [] env)).all (fun x => x.1.isSome) = true := rfl
  rw [h2]
  simp
  omega
theorem ckXs_stars {sc : Scope} {N : List Str} : ∀ {xs : List Ev.X} {es : List Expr}, ckXs G cm xs sc N es = true → es.all notStar = true ∧ xs.length = es.length
  | [], es, h => by
    cases es with
    | nil => exact ⟨rfl, rfl⟩
    | cons e r => cases h
  | x :: xs, es, h => by
    cases es with
    | nil => cases h
    | cons e r =>
      obtain ⟨h0, h2⟩ := and4 (a := notStar e && ckX G cm x sc N e) h
      obtain ⟨h1, _⟩ := and4 h0
      obtain ⟨h3, h4⟩ := ckXs_stars h2
      exact ⟨by rw [List.all_cons, h1, h3]; rfl, by simp [h4]⟩
/-- plain built-ins -/
def bltC (G : List (Str × Gv)) (cm : Bool) (sc : Scope) (N : List Str) (n : Str) (b : Blt) (es : List Ev.X) (args : List Expr) : Bool := match bltN b with | some (m, c) => decide (n = m) && (cm || !c) && isB G n && glb sc n && ckXs G cm es sc N args | none => false
theorem blt_plain {X : Cx} {sc : Scope} {N : List Str} {n : Str} {np p : Pos} {e1 : Expr} {r : List Expr} (g : Good B X F G sc cm) (b : Blt) (es : List Ev.X) (h : bltC G cm sc N n b es (e1 :: r) = true) (ih : ckXs G cm es sc N (e1 :: r) = true → SA B X N F (e1 :: r) es) :
    SE B X N F (.Call (.Name n np) (e1 :: r) [] p) (.blt b es) := by
  unfold bltC at h
  cases hb : bltN b with
  | none => rw [hb] at h; cases h
  | some mc =>
    obtain ⟨m, c⟩ := mc
    rw [hb] at h
    simp only [Bool.and_eq_true] at h
    obtain ⟨⟨⟨⟨h1, h2⟩, h3⟩, h4⟩, h5⟩ := h
    have e1' := of_decide_eq_true h1
    obtain ⟨q1, q2⟩ := ckXs_stars h5
    rw [List.all_cons, Bool.and_eq_true] at q1
    have sa := ih h5
    have hc : c = true → X.calm = true := fun z => g.calm (by rw [z] at h2; simpa using h2)
    intro pins O ρ s S
    show Gw B X _ ((evs F ρ es).bind fun l => bltD b l) _
    cases b with
    | len => cases hb; subst e1'; exact se_callB sc_len (isB_ok g h3) PySem.boot_len sa (glb_ok g h4) (by decide) (by decide) (notStar_ok q1.1) (back_plain q1.2) S
    | tuple => cases hb; subst e1'; exact se_callTy sc_tuple (isB_ok g h3) (by decide +kernel) sa (glb_ok g h4) (by decide) (by decide) (notStar_ok q1.1) (back_plain q1.2) S
    | list => cases hb; subst e1'; exact se_callTy sc_list (isB_ok g h3) (by decide +kernel) sa (glb_ok g h4) (by decide) (by decide) (notStar_ok q1.1) (back_plain q1.2) S
    | sum => cases hb; subst e1'; exact se_callB (sc_sum (hc rfl)) (isB_ok g h3) (by decide +kernel) sa (glb_ok g h4) (by decide) (by decide) (notStar_ok q1.1) (back_plain q1.2) S
    | all => cases hb; subst e1'; exact se_callB (sc_all (hc rfl)) (isB_ok g h3) (by decide +kernel) sa (glb_ok g h4) (by decide) (by decide) (notStar_ok q1.1) (back_plain q1.2) S
    | any => cases hb; subst e1'; exact se_callB (sc_any (hc rfl)) (isB_ok g h3) (by decide +kernel) sa (glb_ok g h4) (by decide) (by decide) (notStar_ok q1.1) (back_plain q1.2) S
    | _ => cases hb
mutual
theorem ckX_ok : ∀ (x : Ev.X) (X : Cx) (sc : Scope) (N : List Str) (e : Expr), Good B X F G sc cm → ckX G cm x sc N e = true → Snd B X N F e x
  | .var i, X, sc, N, e, g, h => by
    unfold ckX at h
    cases e with
    | Name y p =>
      obtain ⟨h0, h4⟩ := and4 (a := decide (y ∈ N) && (ix y N == i) && vis sc y) h
      obtain ⟨h0, h3⟩ := and4 (a := decide (y ∈ N) && (ix y N == i)) h0
      obtain ⟨h1, h2⟩ := and4 h0
      exact Snd.val (se_var (of_decide_eq_true h1) (by simpa using h2) (vis_ok g h3) (okn_ok h4).1 (okn_ok h4).2) rfl
    | _ => cases h
  | .con d, X, sc, N, e, g, h => by
    unfold ckX at h
    exact ckCon_ok g h
  | .bin o a b, X, sc, N, e, g, h => by
    unfold ckX at h
    cases e with
    | BinOp l op r p =>
      obtain ⟨h0, h3⟩ := and4 (a := decide (op = bOp o) && ckX G cm a sc N l) h
      obtain ⟨h1, h2⟩ := and4 h0
      have := of_decide_eq_true h1
      subst this
      exact Snd.val (se_bin (ckX_ok a X sc N l g h2).se (ckX_ok b X sc N r g h3).se) rfl
    | _ => cases h
  | .neg a, X, sc, N, e, g, h => by
    unfold ckX at h
    cases e with
    | UnaryOp op l p =>
      cases op with
      | USub => exact Snd.val (se_neg (ckX_ok a X sc N l g h).se) rfl
      | _ => cases h
    | _ => cases h
  | .not_ a, X, sc, N, e, g, h => by
    unfold ckX at h
    cases e with
    | UnaryOp op l p =>
      cases op with
      | Not =>
        obtain ⟨h1, h2⟩ := and4 h
        have q := ckX_ok a X sc N l g h2
        exact ⟨se_not q.se, fun _ => st_not (q.st h1), (fun z => nomatch z)⟩
      | _ => cases h
    | _ => cases h
  | .and_ a b, X, sc, N, e, g, h => by
    unfold ckX at h
    cases e with
    | BoolOp op vs p =>
      cases op with
      | Or => cases h
      | And =>
        match vs, h with
        | [l, r], h =>
          obtain ⟨h0, h4⟩ := and4 (a := tst l && tst r && ckX G cm a sc N l) h
          obtain ⟨h0, h3⟩ := and4 (a := tst l && tst r) h0
          obtain ⟨h1, h2⟩ := and4 h0
          have qa := ckX_ok a X sc N l g h3
          have qb := ckX_ok b X sc N r g h4
          have w : STw B X N F (.BoolOp .And [l, r] p) (.and_ a b) := stw_and (qa.st h1) (stw_and1 (qb.st h2))
          exact ⟨se_and qa.se (se_one qb.se), fun _ => w _, fun _ => w⟩
        | l :: r :: t :: rest, h =>
          obtain ⟨h0, h4⟩ := and4 (a := tst l && ckX G cm a sc N l) h
          obtain ⟨h1, h3⟩ := and4 h0
          have qa := ckX_ok a X sc N l g h3
          have qb := ckX_ok b X sc N (.BoolOp .And (r :: t :: rest) p) g h4
          have w : STw B X N F (.BoolOp .And (l :: r :: t :: rest) p) (.and_ a b) := stw_and (qa.st h1) (qb.stw rfl)
          exact ⟨se_and qa.se qb.se, fun _ => w _, fun _ => w⟩
        | [], h => cases h
        | [_], h => cases h
    | _ => cases h
  | .or_ a b, X, sc, N, e, g, h => by
    unfold ckX at h
    cases e with
    | BoolOp op vs p =>
      cases op with
      | And => cases h
      | Or =>
        match vs, h with
        | [l, r], h =>
          obtain ⟨h0, h4⟩ := and4 (a := tst l && tst r && ckX G cm a sc N l) h
          obtain ⟨h0, h3⟩ := and4 (a := tst l && tst r) h0
          obtain ⟨h1, h2⟩ := and4 h0
          have qa := ckX_ok a X sc N l g h3
          have qb := ckX_ok b X sc N r g h4
          have w : STw B X N F (.BoolOp .Or [l, r] p) (.or_ a b) := stw_or (qa.st h1) (stw_or1 (qb.st h2))
          exact ⟨se_or qa.se (se_one qb.se), fun _ => w _, fun _ => w⟩
        | l :: r :: t :: rest, h =>
          obtain ⟨h0, h4⟩ := and4 (a := tst l && ckX G cm a sc N l) h
          obtain ⟨h1, h3⟩ := and4 h0
          have qa := ckX_ok a X sc N l g h3
          have qb := ckX_ok b X sc N (.BoolOp .Or (r :: t :: rest) p) g h4
          have w : STw B X N F (.BoolOp .Or (l :: r :: t :: rest) p) (.or_ a b) := stw_or (qa.st h1) (qb.stw rfl)
          exact ⟨se_or qa.se qb.se, fun _ => w _, fun _ => w⟩
        | [], h => cases h
        | [_], h => cases h
    | _ => cases h
  | .ite c a b, X, sc, N, e, g, h => by
    unfold ckX at h
    cases e with
    | IfExp t l r p =>
      obtain ⟨h0, h4⟩ := and4 (a := tst t && ckX G cm c sc N t && ckX G cm a sc N l) h
      obtain ⟨h0, h3⟩ := and4 (a := tst t && ckX G cm c sc N t) h0
      obtain ⟨h1, h2⟩ := and4 h0
      exact ⟨se_ite ((ckX_ok c X sc N t g h2).st h1) (ckX_ok a X sc N l g h3).se (ckX_ok b X sc N r g h4).se, (fun z => nomatch z), (fun z => nomatch z)⟩
    | _ => cases h
  | .cmp o a b, X, sc, N, e, g, h => by
    unfold ckX at h
    cases e with
    | Compare l ops cs p =>
      match ops, cs, h with
      | [op], [r], h =>
        obtain ⟨h0, h4⟩ := and4 (a := decide (op = cOp o) && !behindInMarks op r && ckX G cm a sc N l) h
        obtain ⟨h0, h3⟩ := and4 (a := decide (op = cOp o) && !behindInMarks op r) h0
        obtain ⟨h1, h2⟩ := and4 h0
        have := of_decide_eq_true h1
        subst this
        have hm : behindInMarks (cOp o) r = false := by simpa using h2
        have qa := (ckX_ok a X sc N l g h3).se
        have qb := (ckX_ok b X sc N r g h4).se
        exact ⟨se_cmp g.hu qa qb hm, fun _ => st_cmp g.hu qa qb hm, (fun z => nomatch z)⟩
      | [], _, h => cases h
      | [_], [], h => cases h
      | [_], _ :: _ :: _, h => cases h
      | _ :: _ :: _, _, h => cases h
    | _ => cases h
  | .chain o o2 a b c, X, sc, N, e, g, h => by
    unfold ckX at h
    cases e with
    | Compare l ops cs p =>
      match ops, cs, h with
      | [op, op2], [r, t], h =>
        obtain ⟨h0, h6⟩ := and4 (a := decide (op = cOp o) && decide (op2 = cOp o2) && !lastMarks [op, op2] [r, t] && ckX G cm a sc N l && ckX G cm b sc N r) h
        obtain ⟨h0, h5⟩ := and4 (a := decide (op = cOp o) && decide (op2 = cOp o2) && !lastMarks [op, op2] [r, t] && ckX G cm a sc N l) h0
        obtain ⟨h0, h4⟩ := and4 (a := decide (op = cOp o) && decide (op2 = cOp o2) && !lastMarks [op, op2] [r, t]) h0
        obtain ⟨h0, h3⟩ := and4 (a := decide (op = cOp o) && decide (op2 = cOp o2)) h0
        obtain ⟨h1, h2⟩ := and4 h0
        have e1 := of_decide_eq_true h1
        have e2 := of_decide_eq_true h2
        subst e1 e2
        have hm : lastMarks [cOp o, cOp o2] [r, t] = false := by simpa using h3
        have qa := (ckX_ok a X sc N l g h4).se
        have qb := (ckX_ok b X sc N r g h5).se
        have qc := (ckX_ok c X sc N t g h6).se
        exact ⟨se_chain g.hu qa qb qc hm, fun _ => st_chain g.hu qa qb qc hm, (fun z => nomatch z)⟩
      | [], _, h => cases h
      | [_], _, h => cases h
      | [_, _], [], h => cases h
      | [_, _], [_], h => cases h
      | [_, _], _ :: _ :: _ :: _, h => cases h
      | _ :: _ :: _ :: _, _, h => cases h
    | _ => cases h
  | .list es, X, sc, N, e, g, h => by
    unfold ckX at h
    cases e with
    | List l p =>
      obtain ⟨h1, h2⟩ := and4 h
      exact Snd.val (se_list (ckXs_ok es X sc N l g h2) (Nat.le_of_ble_eq_true h1)) rfl
    | _ => cases h
  | .tuple es, X, sc, N, e, g, h => by
    unfold ckX at h
    cases e with
    | Tuple l k p =>
      obtain ⟨h1, h2⟩ := and4 h
      exact Snd.val (se_tuple (ckXs_ok es X sc N l g h2) (Nat.le_of_ble_eq_true h1)) rfl
    | _ => cases h
  | .dict _ _, X, sc, N, e, g, h => by
    unfold ckX at h
    cases h
  | .rev _, X, sc, N, e, g, h => by
    unfold ckX at h
    cases h
  | .dc2 _ _ _ _, X, sc, N, e, g, h => by
    unfold ckX at h
    cases h
  | .repl a o, X, sc, N, e, g, h => by
    unfold ckX at h
    split at h
    · rename_i l nm apos e1 z k kp p
      obtain ⟨h0, h7⟩ := and4 (a := decide (nm = "replace") && decide (z = tS []) && baseOk l && (apos.endLine == p.line) && notStar e1 && ckX G cm a sc N l) h
      obtain ⟨h0, h6⟩ := and4 (a := decide (nm = "replace") && decide (z = tS []) && baseOk l && (apos.endLine == p.line) && notStar e1) h0
      obtain ⟨h0, h5⟩ := and4 (a := decide (nm = "replace") && decide (z = tS []) && baseOk l && (apos.endLine == p.line)) h0
      obtain ⟨h0, h4⟩ := and4 (a := decide (nm = "replace") && decide (z = tS []) && baseOk l) h0
      obtain ⟨h0, h3⟩ := and4 (a := decide (nm = "replace") && decide (z = tS [])) h0
      obtain ⟨h1, h2⟩ := and4 h0
      have e1' := of_decide_eq_true h1
      subst e1'
      exact Snd.val (se_repl (of_decide_eq_true h2) (ckX_ok a X sc N l g h6).se (ckX_ok o X sc N e1 g h7).se (baseOk_ok h3) (few_ok (by rw [List.all_cons, h5]; rfl) (by show 2 < 28; omega)) h4 (notStar_ok h5) rfl) rfl
    · cases h
  | .sub a i, X, sc, N, e, g, h => by
    unfold ckX at h
    split at h
    · rename_i l r p
      obtain ⟨h0, h3⟩ := and4 (a := plainI r && ckX G cm a sc N l) h
      obtain ⟨h1, h2⟩ := and4 h0
      exact Snd.val (se_sub (ckX_ok a X sc N l g h2).se (ckX_ok i X sc N r g h3).se (plainI_ok h1)) rfl
    · cases h
  | .slice a lo hi, X, sc, N, e, g, h => by
    unfold ckX at h
    split at h
    · rename_i l y z p1 p
      obtain ⟨h0, h3⟩ := and4 (a := ckX G cm a sc N l && ckO G cm lo sc N y) h
      obtain ⟨h1, h2⟩ := and4 h0
      exact Snd.val (se_slice (ckX_ok a X sc N l g h1).se (ckO_ok lo X sc N y g h2) (ckO_ok hi X sc N z g h3) slice_plain) rfl
    · cases h
  | .call f es, X, sc, N, e, g, h => by
    unfold ckX at h
    split at h
    · rename_i n np e1 r p
      obtain ⟨h0, h5⟩ := and4 (a := cm && fnIs G n f && glb sc n && okn n) h
      obtain ⟨h0, h4⟩ := and4 (a := cm && fnIs G n f && glb sc n) h0
      obtain ⟨h0, h3⟩ := and4 (a := cm && fnIs G n f) h0
      obtain ⟨h1, h2⟩ := and4 h0
      obtain ⟨k, C⟩ := g.cal h1
      obtain ⟨q1, q2⟩ := ckXs_stars h5
      rw [List.all_cons, Bool.and_eq_true] at q1
      exact Snd.val (se_call C (fnIs_ok g h2) (g.keep f) (glb_ok g h3) (ckXs_ok es X sc N (e1 :: r) g h5) (okn_ok h4).1 (notStar_ok q1.1) (back_plain q1.2)) rfl
    · cases h
  | .callv v es, X, sc, N, e, g, h => by
    unfold ckX at h
    split at h
    · rename_i f e1 r p
      obtain ⟨h0, h4⟩ := and4 (a := cm && isSub f && ckX G cm v sc N f) h
      obtain ⟨h0, h3⟩ := and4 (a := cm && isSub f) h0
      obtain ⟨h1, h2⟩ := and4 h0
      obtain ⟨k, C⟩ := g.cal h1
      obtain ⟨q1, q2⟩ := ckXs_stars h4
      rw [List.all_cons, Bool.and_eq_true] at q1
      exact Snd.val (se_callv C g.keep (ckX_ok v X sc N f g h3).se (ckXs_ok es X sc N (e1 :: r) g h4) (notStar_ok q1.1) (back_plain q1.2) (callv_ok (by cases f <;> first | rfl | cases h2))) rfl
    · cases h
  | .meth m a es, X, sc, N, e, g, h => by
    unfold ckX at h
    split at h
    · rename_i l nm apos e1 r p
      obtain ⟨h0, h7⟩ := and4 (a := mthN m && decide (nm = mName m) && baseOk l && (apos.endLine == p.line) && Nat.blt r.length 25 && ckX G cm a sc N l) h
      obtain ⟨h0, h6⟩ := and4 (a := mthN m && decide (nm = mName m) && baseOk l && (apos.endLine == p.line) && Nat.blt r.length 25) h0
      obtain ⟨h0, h5⟩ := and4 (a := mthN m && decide (nm = mName m) && baseOk l && (apos.endLine == p.line)) h0
      obtain ⟨h0, h4⟩ := and4 (a := mthN m && decide (nm = mName m) && baseOk l) h0
      obtain ⟨h0, h3⟩ := and4 (a := mthN m && decide (nm = mName m)) h0
      obtain ⟨h1, h2⟩ := and4 h0
      have e1' := of_decide_eq_true h2
      subst e1'
      obtain ⟨q1, q2⟩ := ckXs_stars h7
      have q1' := q1
      rw [List.all_cons, Bool.and_eq_true] at q1'
      have hm : SMt B X m := by
        cases m <;> first | (cases h1; done) | exact sm_join | exact sm_index g.hu
      have hlt : r.length < 25 := Nat.lt_of_lt_of_le (Nat.lt_succ_self _) (Nat.le_of_ble_eq_true h5)
      exact Snd.val (se_meth (ckX_ok a X sc N l g h6).se (ckXs_ok es X sc N (e1 :: r) g h7) hm (baseOk_ok h3) (few_ok q1 (by simp; omega)) h4 (notStar_ok q1'.1) (back_plain q1'.2)) rfl
    · cases h
  | .isi a t, X, sc, N, e, g, h => by
    unfold ckX at h
    split at h
    · rename_i n np l T tp p
      obtain ⟨h0, h8⟩ := and4 (a := decide (n = "isinstance") && isB G "isinstance" && glb sc "isinstance" && glb sc T && okn T && notStar l && ckX G cm a sc N l) h
      obtain ⟨h0, h7⟩ := and4 (a := decide (n = "isinstance") && isB G "isinstance" && glb sc "isinstance" && glb sc T && okn T && notStar l) h0
      obtain ⟨h0, h6⟩ := and4 (a := decide (n = "isinstance") && isB G "isinstance" && glb sc "isinstance" && glb sc T && okn T) h0
      obtain ⟨h0, h5⟩ := and4 (a := decide (n = "isinstance") && isB G "isinstance" && glb sc "isinstance" && glb sc T) h0
      obtain ⟨h0, h4⟩ := and4 (a := decide (n = "isinstance") && isB G "isinstance" && glb sc "isinstance") h0
      obtain ⟨h0, h3⟩ := and4 (a := decide (n = "isinstance") && isB G "isinstance") h0
      obtain ⟨h1, h2⟩ := and4 h0
      have e1' := of_decide_eq_true h1
      subst e1'
      refine Snd.val ?_ rfl
      have qa := (ckX_ok a X sc N l g h7).se
      have pl : ∀ (ty : Ty) (m : Str), tyN ty = some m → isP ty = true → bootBuiltins m = some (.type (tyS ty)) → m ≠ "__name__" → (decide (T = m) && isB G T) = true → SE B X N F (.Call (.Name "isinstance" np) [l, .Name T tp] [] p) (.isi a ty) := fun ty m _ hp hb hn h => by
        obtain ⟨k1, k2⟩ := and4 h
        have := of_decide_eq_true k1
        subst this
        exact se_isiT qa hp (isB_ok g h2) (glb_ok g h3) (isB_ok g k2) (glb_ok g h4) hb hn (okn_ok h5).1 h6
      cases t with
      | cls c =>
        obtain ⟨k1, k2⟩ := clsIs_ok g h8
        exact se_isiC qa g.exc k2 (isB_ok g h2) (glb_ok g h3) k1 (glb_ok g h4) (okn_ok h5).1 h6
      | int => exact pl .int "int" rfl rfl (by decide +kernel) (by decide) h8
      | bool => exact pl .bool "bool" rfl rfl (by decide +kernel) (by decide) h8
      | str => exact pl .str "str" rfl rfl (by decide +kernel) (by decide) h8
      | tuple => exact pl .tuple "tuple" rfl rfl (by decide +kernel) (by decide) h8
      | list => exact pl .list "list" rfl rfl (by decide +kernel) (by decide) h8
    · cases h
  | .lc elt (.mk n it ifs), X, sc, N, e, g, h => by
    unfold ckX at h
    split at h
    · rename_i el gg scope p
      obtain ⟨tgt, iter, ifs', asy⟩ := gg
      cases ht : tgOf tgt with
      | none => simp only [ht] at h; cases h
      | some ts =>
        simp only [ht] at h
        obtain ⟨h0, h8⟩ := and4 (a := cm && (n == ts.length) && nodupB ts && blkB N sc scope ts && (asy == 0) && ckI G cm it sc N tgt iter && ckF G cm ifs (relS scope sc) (ts ++ N) ifs') h
        obtain ⟨h0, h7⟩ := and4 (a := cm && (n == ts.length) && nodupB ts && blkB N sc scope ts && (asy == 0) && ckI G cm it sc N tgt iter) h0
        obtain ⟨h0, h6⟩ := and4 (a := cm && (n == ts.length) && nodupB ts && blkB N sc scope ts && (asy == 0)) h0
        obtain ⟨h0, h5⟩ := and4 (a := cm && (n == ts.length) && nodupB ts && blkB N sc scope ts) h0
        obtain ⟨h0, h4⟩ := and4 (a := cm && (n == ts.length) && nodupB ts) h0
        obtain ⟨h0, h3⟩ := and4 (a := cm && (n == ts.length)) h0
        obtain ⟨h1, h2⟩ := and4 h0
        have e5 : asy = 0 := by simpa using h5
        subst e5
        have si := ckI_ok it X sc N tgt iter ts g h1 ht h6
        exact Snd.val (se_lc (by simpa using h2) (g.calm h1) si.1 (tgOf_ok ht) (nodupB_ok h3) (by rw [g.scope]; exact blkB_ok h4) (fun s3 ex => ckF_ok ifs _ _ _ ifs' g.blk h7) (fun s3 ex => (ckX_ok elt _ _ _ el g.blk h8).se) (si.2 X.env)) rfl
    · cases h
  | .lc2 elt (.mk n it ifs) (.mk n2 it2 ifs2), X, sc, N, e, g, h => by
    unfold ckX at h
    split at h
    · rename_i el gg gg2 scope p
      obtain ⟨tgt, iter, ifs', asy⟩ := gg
      obtain ⟨tgt2, iter2, ifs2', asy2⟩ := gg2
      cases ht : tgOf tgt with
      | none => simp only [ht] at h; cases h
      | some ts =>
        cases ht2 : tgOf tgt2 with
        | none => simp only [ht, ht2] at h; cases h
        | some ts2 =>
          simp only [ht, ht2] at h
          simp only [Bool.and_eq_true] at h
          obtain ⟨⟨⟨⟨⟨⟨⟨⟨⟨⟨⟨h1, h2⟩, h2'⟩, h3⟩, h4⟩, h5⟩, h5'⟩, h6⟩, h7⟩, h8⟩, h9⟩, h10⟩ := h
          have e5 : asy = 0 := by simpa using h5
          have e5' : asy2 = 0 := by simpa using h5'
          subst e5 e5'
          have si := ckI_ok it X sc N tgt iter ts g h1 ht h6
          have si2 := fun s3 ex => ckI_ok it2 (bCx scope X s3 ex) (relS scope sc) (ts ++ (ts2 ++ N)) tgt2 iter2 ts2 g.blk h1 ht2 h8
          exact Snd.val (se_lc2 (by simpa using h2) (by simpa using h2') (g.calm h1) si.1 (tgOf_ok ht) (tgOf_ok ht2) (nodupB_ok h3) (by rw [g.scope]; exact blkB_ok h4) (fun s3 ex => ckF_ok ifs _ _ _ ifs' g.blk h7) (fun s3 ex => (si2 s3 ex).1) (fun s3 ex => ckF_ok ifs2 _ _ _ ifs2' g.blk h9) (fun s3 ex => (ckX_ok elt _ _ _ el g.blk h10).se) (si.2 X.env) (si2 X.s_0 []).2) rfl
    · cases h
  | .blt b es, X, sc, N, e, g, h => by
    unfold ckX at h
    split at h
    · rename_i n np n2 n2p a n3p p
      have set_ : ∀ (nm : Str), (cm && decide (n = nm) && decide (n2 = "set") && isB G nm && isB G "set" && glb sc nm && glb sc "set" && ckXs G cm es sc N [a]) = true → cm = true ∧ n = nm ∧ n2 = "set" ∧ X.mg nm = none ∧ X.mg "set" = none ∧ L2.Gl X nm ∧ L2.Gl X "set" ∧ notStar a = true ∧ ∃ x, es = [x] ∧ SA B X N F [a] [x] := fun nm h => by
        simp only [Bool.and_eq_true] at h
        obtain ⟨⟨⟨⟨⟨⟨⟨h1, h2⟩, h3⟩, h4⟩, h5⟩, h6⟩, h7⟩, h8⟩ := h
        obtain ⟨q1, q2⟩ := ckXs_stars h8
        rw [List.all_cons, Bool.and_eq_true] at q1
        have sa := ckXs_ok es X sc N [a] g h8
        match es, q2, sa with
        | [x], _, sa => exact ⟨h1, of_decide_eq_true h2, of_decide_eq_true h3, isB_ok g h4, isB_ok g h5, glb_ok g h6, glb_ok g h7, q1.1, x, rfl, sa⟩
      refine Snd.val ?_ rfl
      cases b with
      | lenSet =>
        obtain ⟨k1, k2, k3, k4, k5, k6, k7, k8, x, k9, k10⟩ := set_ "len" h
        subst k2 k3 k9
        exact se_lenSet (g.calm k1) k4 k6 k5 k7 k10 (notStar_ok k8) (notStar_ok rfl)
      | sortedSet =>
        obtain ⟨k1, k2, k3, k4, k5, k6, k7, k8, x, k9, k10⟩ := set_ "sorted" h
        subst k2 k3 k9
        exact se_sortedSet (g.calm k1) g.hu k4 k6 k5 k7 k10 (notStar_ok k8) (notStar_ok rfl)
      | _ => exact blt_plain g _ es h (fun h => ckXs_ok es X sc N _ g h)
    · exact Snd.val (blt_plain g _ es h (fun h => ckXs_ok es X sc N _ g h)) rfl
    · cases h
theorem ckXs_ok : ∀ (xs : List Ev.X) (X : Cx) (sc : Scope) (N : List Str) (es : List Expr), Good B X F G sc cm → ckXs G cm xs sc N es = true → SA B X N F es xs
  | [], X, sc, N, es, g, h => by
    unfold ckXs at h
    cases es with
    | nil => exact sa_nil
    | cons _ _ => cases h
  | x :: xs, X, sc, N, es, g, h => by
    unfold ckXs at h
    cases es with
    | nil => cases h
    | cons e r =>
      obtain ⟨h0, h3⟩ := and4 (a := notStar e && ckX G cm x sc N e) h
      obtain ⟨h1, h2⟩ := and4 h0
      exact sa_cons (ckX_ok x X sc N e g h2).se (ckXs_ok xs X sc N r g h3) (notStar_ok h1)
theorem ckO_ok : ∀ (x : Option Ev.X) (X : Cx) (sc : Scope) (N : List Str) (e : Option Expr), Good B X F G sc cm → ckO G cm x sc N e = true → SO B X N F e x
  | none, X, sc, N, e, g, h => by
    unfold ckO at h
    cases e with
    | none => exact so_none
    | some _ => cases h
  | some x, X, sc, N, e, g, h => by
    unfold ckO at h
    cases e with
    | none => cases h
    | some e => exact so_some (ckX_ok x X sc N e g h).se
theorem ckF_ok : ∀ (x : Option Ev.X) (X : Cx) (sc : Scope) (N : List Str) (e : List Expr), Good B X F G sc cm → ckF G cm x sc N e = true → STs B X N F e x
  | none, X, sc, N, e, g, h => by
    unfold ckF at h
    cases e with
    | nil => exact sts_nil
    | cons _ _ => cases h
  | some x, X, sc, N, e, g, h => by
    unfold ckF at h
    split at h
    · rename_i e
      obtain ⟨h1, h2⟩ := and4 h
      exact sts_one ((ckX_ok x X sc N e g h2).st h1)
    · cases h
theorem ckI_ok : ∀ (it : Ev.It) (X : Cx) (sc : Scope) (N : List Str) (tg e : Expr) (ts : List Str), Good B X F G sc cm → cm = true → tgOf tg = some ts → ckI G cm it sc N tg e = true → SI B X N F ts.length tg e it ∧ ∀ env x, foldedSetIterable e env x = pure x
  | .val a, X, sc, N, tg, e, ts, g, hc, ht, h => by
    unfold ckI at h
    obtain ⟨h1, h2⟩ := and4 h
    exact ⟨si_val (g.calm hc) (ckX_ok a X sc N e g h2).se, fold_ok h1⟩
  | .rng a, X, sc, N, tg, e, ts, g, hc, ht, h => by
    unfold ckI at h
    split at h
    · rename_i n np l p
      simp only [Bool.and_eq_true] at h
      obtain ⟨⟨⟨⟨h1, h2⟩, h3⟩, h4⟩, h5⟩ := h
      have e1 := of_decide_eq_true h1
      subst e1
      exact ⟨si_rng (g.calm hc) (isB_ok g h2) (sa_cons (ckX_ok a X sc N l g h5).se sa_nil (notStar_ok h4)) (glb_ok g h3) (notStar_ok h4), fold_ok rfl⟩
    · cases h
  | .rng2 a b, X, sc, N, tg, e, ts, g, hc, ht, h => by
    unfold ckI at h
    split at h
    · rename_i n np l r p
      simp only [Bool.and_eq_true] at h
      obtain ⟨⟨⟨⟨⟨⟨h1, h2⟩, h3⟩, h4⟩, h5⟩, h6⟩, h7⟩ := h
      have e1 := of_decide_eq_true h1
      subst e1
      exact ⟨si_rng2 (g.calm hc) (isB_ok g h2) (sa_cons (ckX_ok a X sc N l g h6).se (sa_cons (ckX_ok b X sc N r g h7).se sa_nil (notStar_ok h5)) (notStar_ok h4)) (glb_ok g h3) (notStar_ok h4) (notStar_ok h5), fold_ok rfl⟩
    · cases h
  | .enum a, X, sc, N, tg, e, ts, g, hc, ht, h => by
    unfold ckI at h
    split at h
    · rename_i n np l p
      simp only [Bool.and_eq_true] at h
      obtain ⟨⟨⟨⟨⟨h0, h1⟩, h2⟩, h3⟩, h4⟩, h5⟩ := h
      have e1 := of_decide_eq_true h1
      subst e1
      obtain ⟨q1, es, k, q, rfl⟩ := tgOf_tup ht h0
      exact ⟨si_enum (g.calm hc) q1 (isB_ok g h2) (sa_cons (ckX_ok a X sc N l g h5).se sa_nil (notStar_ok h4)) (glb_ok g h3) (notStar_ok h4), fold_ok rfl⟩
    · cases h
  | .zip a b, X, sc, N, tg, e, ts, g, hc, ht, h => by
    unfold ckI at h
    split at h
    · rename_i n np l r p
      simp only [Bool.and_eq_true] at h
      obtain ⟨⟨⟨⟨⟨⟨⟨h0, h1⟩, h2⟩, h3⟩, h4⟩, h5⟩, h6⟩, h7⟩ := h
      have e1 := of_decide_eq_true h1
      subst e1
      obtain ⟨q1, es, k, q, rfl⟩ := tgOf_tup ht h0
      exact ⟨si_zip (g.calm hc) q1 (isB_ok g h2) (sa_cons (ckX_ok a X sc N l g h6).se (sa_cons (ckX_ok b X sc N r g h7).se sa_nil (notStar_ok h5)) (notStar_ok h4)) (glb_ok g h3) (notStar_ok h4) (notStar_ok h5), fold_ok rfl⟩
    · cases h
end
end
end Ev
namespace Ev
open PySem PySem.Spec PyProof.Rows L2
/-- a name that is written: local, or a cell of the def's own -/
def wrtB (sc : Scope) (n : Str) : Bool := match sc.names.lookup n with | some .local => true | some .cell => true | _ => false
def locB (sc : Scope) (n : Str) : Bool := match sc.names.lookup n with | some .local => true | _ => false
def noComp : Expr → Bool
  | .ListComp _ _ _ _ => false
  | .SetComp _ _ _ _ => false
  | .DictComp _ _ _ _ _ => false
  | _ => true
/-- name = [..]: is the list stored from within the comprehension? -/
def swaps (sc : Scope) (y : Str) (py : Pos) : Expr → Bool
  | .ListComp _ _ scope pos => locB sc y && (py.line == pos.line) && !(scope.names.any fun (n, k) => n == y && (k == .local || k == .cell))
  | _ => false
/-- name = e: how is it stored? -/
def asgB (sc : Scope) (y : Str) (py : Pos) (x : Ev.X) : Expr → Bool
  | .List _ _ => true
  | .ListComp a b c d => swaps sc y py (.ListComp a b c d)
  | e => noComp e && !fresh x
def isTupE : Expr → Bool
  | .Tuple _ _ _ => true
  | _ => false
/-- an exception class with a text -/
def excE (G : List (Str × Gv)) (sc : Scope) (c : Nat) : Expr → Bool
  | .Call (.Name n _) [.Constant (.str _) _ _] [] _ => clsIs G n c && glb sc n && okn n
  | _ => false
/-- a, b = x, y with the stores swapped -/
def parB (sc : Scope) (tg : Expr) (vs : List Expr) (ts : List Str) : Bool := match tg with
  | .Tuple tes _ _ => (ts.length == 2 || ts.length == 3) && (vs.length == ts.length) && nodupB ts && (ts.all fun y => locB sc y) && (tes.all fun e => e.pos.line == (tes.head?.map (·.pos.line)).getD 0) && !(vs.all (foldedForSure 8)) && !(vs.all (constantsAlone 8)) && (vs.all notStar)
  | _ => false
def isTupX : Ev.X → Bool
  | .tuple _ => true
  | _ => false
structure Fl where
  cm : Bool   -- calm
  po : Bool   -- loops allowed
  tp : Bool   -- not within a loop
  df : Bool   -- a def's own body (try allowed)
mutual
def ckS (G : List (Str × Gv)) : Ev.S → Fl → Scope → List Str → Stmt → Bool
  | .asg i x => fun f sc N st => match st with
      | .Assign [.Name y py] e _ => decide (y ∈ N) && (ix y N == i) && wrtB sc y && ckX G f.cm x sc N e && asgB sc y py x e
      | _ => false
  | .asgT is x => fun f sc N st => match st with
      | .Assign [tg] e _ => (match tgOf tg with
          | some ts => f.cm && decide (is = ts.map (ix · N)) && (ts.all fun y => decide (y ∈ N) && wrtB sc y) && ckX G f.cm x sc N e && noComp e && isTup1 tg && (match e with
              | .Tuple vs _ _ => vs.all (foldedForSure 8) || (parB sc tg vs ts && isTupX x)
              | _ => true)
          | none => false)
      | _ => false
  | .append i x => fun f sc N st => match st with
      | .Expr (.Call (.Attribute (.Name y _) nm apos) [e] [] cpos) _ => decide (nm = "append") && decide (y ∈ N) && (ix y N == i) && okn y && (apos.endLine == cpos.line) && notStar e && ckX G f.cm x sc N e
      | _ => false
  | .extend _ _ => fun _ _ _ _ => false
  | .put _ _ _ => fun _ _ _ _ => false
  | .pop _ _ => fun _ _ _ _ => false
  | .putAsg _ _ _ _ _ => fun _ _ _ _ => false
  | .expr x => fun f sc N st => match st with | .Expr e _ => noComp e && ckX G f.cm x sc N e | _ => false
  | .ret x => fun f sc N st => match st with | .Return (some e) _ => ckX G f.cm x sc N e | _ => false
  | .raise c => fun f sc N st => match st with | .Raise (some e) none _ => f.cm && excE G sc c e | _ => false
  | .brk => fun f sc N st => match st with | .Break _ => true | _ => false
  | .pass => fun f sc N st => match st with | .Pass _ => true | _ => false
  | .if_ c a b => fun f sc N st => match st with | .If t l r _ => tst t && ckX G f.cm c sc N t && ckSs G a f sc N l && ckSs G b f sc N r | _ => false
  | .for_ t it b => fun f sc N st => match st with
      | .For tg iter body [] _ => (match tgOf tg with
          | some ts => f.cm && f.po && decide (t = ts.map (ix · N)) && (ts.all fun y => decide (y ∈ N) && wrtB sc y) && ckI G f.cm it sc N tg iter && ckSs G b { f with tp := false } sc N body
          | none => false)
      | _ => false
  | .while_ c b => fun f sc N st => match st with | .While t body [] _ => f.po && tst t && ckX G f.cm c sc N t && ckSs G b f sc N body | _ => false
  | .try_ b c i h => fun f sc N st => match st with
      | .Try body [.ExceptHandler (some (.Name nm _)) (some n) (s0 :: suite) _] [] [] _ => f.cm && f.tp && f.df && clsIs G nm c && glb sc nm && okn nm && decide (n ∈ N) && (ix n N == i) && locB sc n &&
          ckSs G b { f with po := false, df := false } sc N body && ckSs G h { f with cm := false, po := false, df := false } sc N (s0 :: suite)
      | _ => false
def ckSs (G : List (Str × Gv)) : List Ev.S → Fl → Scope → List Str → List Stmt → Bool
  | [] => fun _ _ _ es => match es with | [] => true | _ => false
  | x :: xs => fun f sc N es => match es with | e :: r => ckS G x f sc N e && ckSs G xs f sc N r | _ => false
end
end Ev
namespace Ev
open PySem PySem.Spec PyProof.Rows L2
/-- classes that may be raised -/
structure RzK (B : Bk) (K : PySem.W.Frag) : Prop where
  ei : ∀ c, c < B.nc → PySem.W.excIn K (B.ca c) [.type "ValueError", .type "Exception", .type "BaseException", .type "object"] "ValueError.__new__" = true
  kp : ∀ c, c < B.nc → PySem.W.keepIn K (.ref (B.ca c)) = true
  tt : ∀ c, c < B.nc → PySem.W.typeIn K (.ref (B.ca c)) = some (.type "type")
/-- what the context of statements must have -/
structure GoodS (B : Bk) (X : Cx) (F : Fx) (G : List (Str × Gv)) (sc : Scope) (f : Fl) : Prop where
  good : Good B X F G sc f.cm
  fn : ∀ n, X.fn n = true
  po : f.po = true → PO X
  df : f.df = true → X.stack = X.env :: X.outer ∧ X.env.frame = some X.env.locals ∧ X.ex = []
  bk : X.env.scope.kind = .function
  rz : RzK B X.K
  exm : ∀ c c', c' < B.nc → c < B.nc → PySem.W.exmOne X.K (.ref (B.ca c')) (.ref (B.ca c)) = some (F.sub c' c)
  nc : F.nc = B.nc
section
variable {B : Bk} {X : Cx} {N : List Str} {F : Fx} {G : List (Str × Gv)} {sc : Scope} {f : Fl}
theorem wrtB_ok {n : Str} (g : GoodS B X F G sc f) (h : wrtB sc n = true) : Wrt X n := by
  unfold wrtB at h
  unfold Wrt
  rw [g.good.scope]
  split at h
  · exact .inl (by assumption)
  · exact .inr ⟨by assumption, g.fn n⟩
  · cases h
theorem locB_ok {n : Str} (g : GoodS B X F G sc f) (h : locB sc n = true) : X.env.scope.names.lookup n = some .local := by
  unfold locB at h
  rw [g.good.scope]
  split at h
  · assumption
  · cases h
theorem swaps_ok {y : Str} {py : Pos} {el : Expr} {gs : List Comprehension} {scope : Scope} {pos : Pos} {l : Nat} (g : GoodS B X F G sc f) (h : swaps sc y py (.ListComp el gs scope pos) = true) : swapsWith (.ListComp el gs scope pos) (some (.Name y py)) l X.env = pure true := by
  obtain ⟨h0, h3⟩ := and4 (a := locB sc y && (py.line == pos.line)) h
  obtain ⟨h1, h2⟩ := and4 h0
  exact sw_true g.bk (locB_ok g h1) h2 (by simpa using h3)
theorem lc_parts {cm : Bool} {elt : Ev.X} {n : Nat} {it : Ev.It} {ifs : Option Ev.X} {el : Expr} {gs : List Comprehension} {scope : Scope} {p : Pos} (h : ckX G cm (.lc elt (.mk n it ifs)) sc N (.ListComp el gs scope p) = true) :
    ∃ tgt iter ifs' ts, gs = [⟨tgt, iter, ifs', 0⟩] ∧ tgOf tgt = some ts ∧ cm = true ∧ n = ts.length ∧ ts.Nodup ∧ blkB N sc scope ts = true ∧ ckI G cm it sc N tgt iter = true ∧ ckF G cm ifs (relS scope sc) (ts ++ N) ifs' = true ∧ ckX G cm elt (relS scope sc) (ts ++ N) el = true := by
  unfold ckX at h
  split at h
  · rename_i el' gg scope' p' heq
    cases heq
    obtain ⟨tgt, iter, ifs', asy⟩ := gg
    cases ht : tgOf tgt with
    | none => simp only [ht] at h; cases h
    | some ts =>
      simp only [ht, Bool.and_eq_true] at h
      obtain ⟨⟨⟨⟨⟨⟨⟨h1, h2⟩, h3⟩, h4⟩, h5⟩, h6⟩, h7⟩, h8⟩ := h
      have e5 : asy = 0 := by simpa using h5
      subst e5
      exact ⟨tgt, iter, ifs', ts, rfl, ht, h1, by simpa using h2, nodupB_ok h3, h4, h6, h7, h8⟩
  · cases h
theorem lc2_parts {cm : Bool} {elt : Ev.X} {n n2 : Nat} {it it2 : Ev.It} {ifs ifs2 : Option Ev.X} {el : Expr} {gs : List Comprehension} {scope : Scope} {p : Pos} (h : ckX G cm (.lc2 elt (.mk n it ifs) (.mk n2 it2 ifs2)) sc N (.ListComp el gs scope p) = true) :
    ∃ tgt iter ifs' ts tgt2 iter2 ifs2' ts2, gs = [⟨tgt, iter, ifs', 0⟩, ⟨tgt2, iter2, ifs2', 0⟩] ∧ tgOf tgt = some ts ∧ tgOf tgt2 = some ts2 ∧ cm = true ∧ n = ts.length ∧ n2 = ts2.length ∧ (ts ++ ts2).Nodup ∧ blkB N sc scope (ts ++ ts2) = true ∧ ckI G cm it sc N tgt iter = true ∧
      ckF G cm ifs (relS scope sc) (ts ++ (ts2 ++ N)) ifs' = true ∧ ckI G cm it2 (relS scope sc) (ts ++ (ts2 ++ N)) tgt2 iter2 = true ∧ ckF G cm ifs2 (relS scope sc) (ts ++ (ts2 ++ N)) ifs2' = true ∧ ckX G cm elt (relS scope sc) (ts ++ (ts2 ++ N)) el = true := by
  unfold ckX at h
  split at h
  · rename_i el' gg gg2 scope' p' heq
    cases heq
    obtain ⟨tgt, iter, ifs', asy⟩ := gg
    obtain ⟨tgt2, iter2, ifs2', asy2⟩ := gg2
    cases ht : tgOf tgt with
    | none => simp only [ht] at h; cases h
    | some ts =>
      cases ht2 : tgOf tgt2 with
      | none => simp only [ht, ht2] at h; cases h
      | some ts2 =>
        simp only [ht, ht2, Bool.and_eq_true] at h
        obtain ⟨⟨⟨⟨⟨⟨⟨⟨⟨⟨⟨h1, h2⟩, h2'⟩, h3⟩, h4⟩, h5⟩, h5'⟩, h6⟩, h7⟩, h8⟩, h9⟩, h10⟩ := h
        have e5 : asy = 0 := by simpa using h5
        have e5' : asy2 = 0 := by simpa using h5'
        subst e5 e5'
        exact ⟨tgt, iter, ifs', ts, tgt2, iter2, ifs2', ts2, rfl, ht, ht2, h1, by simpa using h2, by simpa using h2', nodupB_ok h3, h4, h6, h7, h8, h9, h10⟩
  · cases h
end
end Ev
namespace Ev
open PySem PySem.Spec PyProof.Rows L2
section
variable {B : Bk} {X : Cx} {N : List Str} {F : Fx} {G : List (Str × Gv)} {sc : Scope} {f : Fl}
theorem sw_none1 {tg e : Expr} {env : Env} (h : isTupE e = false) : swappedStores [tg] e env = pure none := by
  cases e <;> first | (cases h; done) | (cases tg <;> rfl)
theorem sw_none2 {tg : Expr} {vs : List Expr} {k : Nat} {p : Pos} {env : Env} (h : vs.all (foldedForSure 8) = true) : swappedStores [tg] (.Tuple vs k p) env = pure none := by
  unfold swappedStores
  cases tg <;> first | rfl | (dsimp only; rw [h]; repeat (first | rfl | split))
theorem filt_names {sc : Scope} {env : Env} {g : Expr → Option Str} (hsc : env.scope = sc) {line : Nat} : ∀ {es : List Expr} {xs : List Str}, Nms es xs → (xs.all fun y => locB sc y) = true → (es.all fun e => e.pos.line == line) = true →
    (∀ id pos, g (.Name id pos) = if env.kindOf id == some .local && pos.line == line then some id else none) → es.filterMap g = xs
  | _, _, .nil, _, _, _ => rfl
  | _, _, .cons (x := x) (pos := pos) (es := es) (xs := xs) t, h1, h2, hg => by
    rw [List.all_cons, Bool.and_eq_true] at h1 h2
    have hk : env.kindOf x = some .local := by
      unfold Env.kindOf
      rw [hsc]
      have := h1.1
      unfold locB at this
      split at this
      · assumption
      · cases this
    have hl : (pos.line == line) = true := h2.1
    rw [List.filterMap_cons, hg, hk, hl]
    simp only [beq_self_eq_true, Bool.and_self, if_true]
    rw [filt_names hsc t h1.2 h2.2 hg]
theorem nms_len : ∀ {es : List Expr} {xs : List Str}, Nms es xs → es.length = xs.length
  | _, _, .nil => rfl
  | _, _, .cons t => by simp [nms_len t]
theorem erase_nodup : ∀ {l : List Str}, l.Nodup → l.eraseDups = l
  | [], _ => by simp
  | x :: l, h => by
    rw [List.nodup_cons] at h
    rw [List.eraseDups_cons]
    rw [show l.filter (fun b => !(b == x)) = l from List.filter_eq_self.mpr fun a ha => by
      have : a ≠ x := fun e => h.1 (e ▸ ha)
      simpa using this]
    rw [erase_nodup h.2]
theorem any_no {vs : List Expr} {g : Expr → Bool} (h : vs.all notStar = true) (hg : ∀ e, notStar e = true → g e = false) : vs.any g = false := by
  rw [List.any_eq_false]
  intro e he
  rw [hg e (List.all_eq_true.mp h e he)]
  decide
theorem sw_some {tes vs : List Expr} {ts : List Str} {k1 k2 : Nat} {q1 q2 : Pos} {env : Env} (hsc : env.scope = sc) (hk : env.scope.kind = .function) (ht : Nms tes ts) (h : parB sc (.Tuple tes k1 q1) vs ts = true) : swappedStores [.Tuple tes k1 q1] (.Tuple vs k2 q2) env = pure (some ts) := by
  unfold parB at h
  simp only [Bool.and_eq_true] at h
  obtain ⟨⟨⟨⟨⟨⟨⟨h1, h2⟩, h3⟩, h4⟩, h5⟩, h6⟩, h7⟩, h8⟩ := h
  have hl := nms_len ht
  unfold swappedStores
  dsimp only
  have hb : env.blockKind = .function := by
    unfold Env.blockKind
    rw [hk]; rfl
  rw [filt_names hsc ht h4 h5]
  rw [hb, any_no h8 (by intro e he; cases e <;> first | (cases he; done) | rfl), erase_nodup (nodupB_ok h3), hl]
  have h2' : (vs.length != ts.length) = false := by simpa using h2
  have h6' : vs.all (foldedForSure 8) = false := by simpa using h6
  have h7' : vs.all (constantsAlone 8) = false := by simpa using h7
  rw [h2', h1, h6', h7']
  · simp
  · exact fun _ _ => rfl
end
end Ev
namespace Ev
open PySem PySem.Spec PyProof.Rows L2
section
variable {B : Bk} {F : Fx} {G : List (Str × Gv)}
theorem noComp_ok {e : Expr} (h : noComp e = true) : ∀ t l env, swapsWith e t l env = pure false := by
  intro t l env
  cases e <;> first | (cases h; done) | rfl
theorem noCompS_ok {e tg : Expr} {l : Nat} {env : Env} (h : noComp e = true) : swapsWithSole [tg] e l env = pure false := noComp_ok h _ _ _
theorem asg_ok {X : Cx} {sc : Scope} {N : List Str} {f : Fl} {i : Nat} {x : Ev.X} {y : Str} {py pos : Pos} {e : Expr} {tp : Bool} (g : GoodS B X F G sc f) (hy : y ∈ N) (hi : ix y N = i) (hw : wrtB sc y = true) (hx : ckX G f.cm x sc N e = true)
    (h : asgB sc y py x e = true) : SS tp B X N F (.Assign [.Name y py] e pos) (.asg i x) := by
  have hw' := wrtB_ok g hw
  have k := g.good
  cases e with
  | List es p2 =>
    cases x with
    | list xs =>
      unfold ckX at hx
      obtain ⟨h1, h2⟩ := and4 hx
      exact ss_asgL (ckXs_ok xs X sc N es k h2) (by simpa using h1) hw' hy hi
    | con d => unfold ckX at hx; cases d <;> cases hx
    | lc a g1 => obtain ⟨_, _, _⟩ := g1; unfold ckX at hx; cases hx
    | lc2 a g1 g2 => obtain ⟨_, _, _⟩ := g1; obtain ⟨_, _, _⟩ := g2; unfold ckX at hx; cases hx
    | _ => unfold ckX at hx; cases hx
  | ListComp el gs scope p2 =>
    have hsw := swaps_ok (el := el) (gs := gs) (scope := scope) (pos := p2) (l := pos.line) g h
    cases x with
    | lc a g1 =>
      obtain ⟨n, it, ifs⟩ := g1
      obtain ⟨tgt, iter, ifs', ts, rfl, ht, hc, hn, hnd, hb, h1, h2, h3⟩ := lc_parts hx
      obtain ⟨hi1, hs⟩ := ckI_ok it X sc N tgt iter ts k hc ht h1
      exact ss_asgLc hn (k.calm hc) hi1 (tgOf_ok ht) hnd (by rw [k.scope]; exact blkB_ok hb) (fun s3 ex => ckF_ok _ _ _ _ _ k.blk h2) (fun s3 ex => (ckX_ok _ _ _ _ _ k.blk h3).se) (hs _) hw' hy hi hsw
    | lc2 a g1 g2 =>
      obtain ⟨n, it, ifs⟩ := g1
      obtain ⟨n2, it2, ifs2⟩ := g2
      obtain ⟨tgt, iter, ifs', ts, tgt2, iter2, ifs2', ts2, rfl, ht, ht2, hc, hn, hn2, hnd, hb, h1, h2, h3, h4, h5⟩ := lc2_parts hx
      obtain ⟨hi1, hs⟩ := ckI_ok it X sc N tgt iter ts k hc ht h1
      exact ss_asgLc2 hn hn2 (k.calm hc) hi1 (tgOf_ok ht) (tgOf_ok ht2) hnd (by rw [k.scope]; exact blkB_ok hb) (fun s3 ex => ckF_ok _ _ _ _ _ k.blk h2) (fun s3 ex => (ckI_ok it2 _ _ _ tgt2 iter2 ts2 k.blk hc ht2 h3).1) (fun s3 ex => ckF_ok _ _ _ _ _ k.blk h4) (fun s3 ex => (ckX_ok _ _ _ _ _ k.blk h5).se) (hs _) (ckI_ok it2 (bCx scope X X.s_0 []) _ _ tgt2 iter2 ts2 k.blk hc ht2 h3).2 hw' hy hi hsw
    | con d => unfold ckX at hx; cases d <;> cases hx
    | _ => unfold ckX at hx; cases hx
  | _ =>
    simp only [asgB, Bool.and_eq_true] at h
    obtain ⟨h1, h2⟩ := h
    exact ss_asg (ckX_ok _ _ _ _ _ k hx).se hw' hy hi (by simpa using h2) (noComp_ok h1 _ _ _)
end
end Ev
namespace Ev
open PySem PySem.Spec PyProof.Rows L2
section
variable {B : Bk} {F : Fx} {G : List (Str × Gv)}
theorem GoodS.noloop {X : Cx} {sc : Scope} {f : Fl} (g : GoodS B X F G sc f) : GoodS B X F G sc { f with tp := false } := ⟨g.good, g.fn, g.po, g.df, g.bk, g.rz, g.exm, g.nc⟩
theorem Good.tr {X : Cx} {sc : Scope} {cm : Bool} (g : Good B X F G sc cm) (pn : List (Addr × Obj)) (xe : Value → Shared → Prop) : Good B (X.tr pn xe) F G sc cm := by
  refine ⟨g.scope, fun n v h => ?_, g.calm, fun h => ?_, g.hu, g.exc, g.keep⟩
  · have := g.tab n v h
    cases v <;> exact this
  · obtain ⟨k, c⟩ := g.cal h
    exact ⟨k, c.room, c.fns, c.only⟩
theorem GoodS.tr {X : Cx} {sc : Scope} {f : Fl} (g : GoodS B X F G sc f) (pn : List (Addr × Obj)) (xe : Value → Shared → Prop) : GoodS B (X.tr pn xe) F G sc { f with po := false, df := false } :=
  ⟨g.good.tr pn xe, g.fn, (fun h => nomatch h), (fun h => nomatch h), g.bk, g.rz, g.exm, g.nc⟩
theorem Good.suite {X : Cx} {sc : Scope} {cm : Bool} (g : Good B X F G sc cm) (a : Addr) (pn : List (Addr × Obj)) : Good B (X.suite a pn) F G sc false := by
  refine ⟨g.scope, fun n v h => ?_, (fun h => nomatch h), (fun h => nomatch h), g.hu, g.exc, g.keep⟩
  have := g.tab n v h
  cases v <;> exact this
theorem GoodS.suite {X : Cx} {sc : Scope} {f : Fl} (g : GoodS B X F G sc f) (a : Addr) (pn : List (Addr × Obj)) : GoodS B (X.suite a pn) F G sc { f with cm := false, po := false, df := false } :=
  ⟨g.good.suite a pn, g.fn, (fun h => nomatch h), (fun h => nomatch h), g.bk, g.rz, g.exm, g.nc⟩
theorem excE_ok {X : Cx} {sc : Scope} {f : Fl} {c : Nat} {e : Expr} (g : GoodS B X F G sc f) (h : excE G sc c e = true) : PMk X e (fun _ H Q => Q (.ref (B.ca c)) none H) := by
  unfold excE at h
  split at h
  · rename_i n p m k p2 p3
    simp only [Bool.and_eq_true] at h
    obtain ⟨⟨h1, h2⟩, h3⟩ := h
    obtain ⟨c1, c2⟩ := clsIs_ok g.good h1
    exact pmk_own PySem.F.excBase_ValueError (g.rz.ei c c2) c1 (g.rz.kp c c2) (raises_own (g.good.exc.be c c2) (g.rz.tt c c2)) (glb_ok g.good h2) (okn_ok h3).1
  · cases h
theorem names_ok {X : Cx} {sc : Scope} {N : List Str} {f : Fl} {ts : List Str} (g : GoodS B X F G sc f) (h : (ts.all fun y => decide (y ∈ N) && wrtB sc y) = true) : ∀ y ∈ ts, Wrt X y ∧ y ∈ N := fun y hy => by
  have := List.all_eq_true.mp h y hy
  obtain ⟨h1, h2⟩ := and4 this
  exact ⟨wrtB_ok g h2, of_decide_eq_true h1⟩
mutual
theorem ckS_ok : ∀ (x : Ev.S) (X : Cx) (f : Fl) (sc : Scope) (N : List Str) (st : Stmt), GoodS B X F G sc f → ckS G x f sc N st = true → SS f.tp B X N F st x
  | .asg i x, X, f, sc, N, st, g, h => by
    unfold ckS at h
    split at h
    · rename_i y py e pos
      obtain ⟨h0, h5⟩ := and4 h
      obtain ⟨h0, h4⟩ := and4 h0
      obtain ⟨h0, h3⟩ := and4 h0
      obtain ⟨h1, h2⟩ := and4 h0
      exact asg_ok g (of_decide_eq_true h1) (by simpa using h2) h3 h4 h5
    · cases h
  | .asgT is x, X, f, sc, N, st, g, h => by
    unfold ckS at h
    split at h
    · rename_i tg e pos
      cases ht : tgOf tg with
      | none => simp only [ht] at h; cases h
      | some ts =>
        simp only [ht] at h
        obtain ⟨h0, h7⟩ := and4 h
        obtain ⟨h0, h6⟩ := and4 h0
        obtain ⟨h0, h5⟩ := and4 h0
        obtain ⟨h0, h4⟩ := and4 h0
        obtain ⟨h0, h3⟩ := and4 h0
        obtain ⟨h1, h2⟩ := and4 h0
        have k := g.good
        have hw := names_ok g h3
        obtain ⟨hl, tes, k1, q1, rfl⟩ := tgOf_tup ht h6
        have T := tgOf_ok ht
        by_cases hte : isTupE e = true
        · cases e with
          | Tuple vs k2 q2 =>
            have h7 : (vs.all (foldedForSure 8) || (parB sc (.Tuple tes k1 q1) vs ts && isTupX x)) = true := h7
            rw [Bool.or_eq_true] at h7
            rcases h7 with h7 | h7
            · exact ss_asgT (k.calm h1) (ckX_ok _ _ _ _ _ k h4).se T (of_decide_eq_true h2) hw (noCompS_ok h5) (sw_none2 h7) rfl
            · obtain ⟨h8, h9⟩ := and4 h7
              cases T with
              | tup nm hl' =>
                cases x with
                | tuple xs =>
                  unfold ckX at h4
                  obtain ⟨h41, h42⟩ := and4 h4
                  refine ss_par (k.calm h1) (ckXs_ok _ _ _ _ _ k h42) (Nat.le_of_ble_eq_true h41) hl (of_decide_eq_true h2) ?_ hw (noCompS_ok h5) (sw_some k.scope g.bk nm h8)
                  unfold parB at h8
                  simp only [Bool.and_eq_true] at h8
                  exact nodupB_ok h8.1.1.1.1.1.2
                | _ => cases h9
          | _ => cases hte
        · exact ss_asgT (k.calm h1) (ckX_ok _ _ _ _ _ k h4).se T (of_decide_eq_true h2) hw (noCompS_ok h5) (sw_none1 (by simpa using hte)) rfl
    · cases h
  | .append i x, X, f, sc, N, st, g, h => by
    unfold ckS at h
    split at h
    · rename_i y np nm apos e cpos pos
      obtain ⟨h0, h7⟩ := and4 h
      obtain ⟨h0, h6⟩ := and4 h0
      obtain ⟨h0, h5⟩ := and4 h0
      obtain ⟨h0, h4⟩ := and4 h0
      obtain ⟨h0, h3⟩ := and4 h0
      obtain ⟨h1, h2⟩ := and4 h0
      have h1 := of_decide_eq_true h1
      subst h1
      obtain ⟨o1, o2⟩ := okn_ok h4
      exact ss_append (ckX_ok _ _ _ _ _ g.good h7).se (of_decide_eq_true h2) (by simpa using h3) o1 o2 rfl (few_ok (by simp [h6]) (by simp)) h5 (notStar_ok h6) rfl
    · cases h
  | .extend _ _, X, f, sc, N, st, g, h => by unfold ckS at h; cases h
  | .put _ _ _, X, f, sc, N, st, g, h => by unfold ckS at h; cases h
  | .pop _ _, X, f, sc, N, st, g, h => by unfold ckS at h; cases h
  | .putAsg _ _ _ _ _, X, f, sc, N, st, g, h => by unfold ckS at h; cases h
  | .expr x, X, f, sc, N, st, g, h => by
    unfold ckS at h
    split at h
    · obtain ⟨h1, h2⟩ := and4 h
      exact ss_expr (ckX_ok _ _ _ _ _ g.good h2).se (noComp_ok h1 _ _ _)
    · cases h
  | .ret x, X, f, sc, N, st, g, h => by
    unfold ckS at h
    split at h
    · exact ss_ret (ckX_ok _ _ _ _ _ g.good h).se
    · cases h
  | .raise c, X, f, sc, N, st, g, h => by
    unfold ckS at h
    split at h
    · obtain ⟨h1, h2⟩ := and4 h
      exact ss_raise (g.good.calm h1) (excE_ok g h2)
    · cases h
  | .brk, X, f, sc, N, st, g, h => by
    unfold ckS at h
    split at h
    · exact ss_brk
    · cases h
  | .pass, X, f, sc, N, st, g, h => by
    unfold ckS at h
    split at h
    · exact ss_pass
    · cases h
  | .if_ c a b, X, f, sc, N, st, g, h => by
    unfold ckS at h
    split at h
    · obtain ⟨h0, h4⟩ := and4 h
      obtain ⟨h0, h3⟩ := and4 h0
      obtain ⟨h1, h2⟩ := and4 h0
      exact ss_if ((ckX_ok _ _ _ _ _ g.good h2).st h1) (ckSs_ok a X f sc N _ g h3) (ckSs_ok b X f sc N _ g h4)
    · cases h
  | .for_ t it b, X, f, sc, N, st, g, h => by
    unfold ckS at h
    split at h
    · rename_i tg iter body pos
      cases ht : tgOf tg with
      | none => simp only [ht] at h; cases h
      | some ts =>
        simp only [ht] at h
        obtain ⟨h0, h6⟩ := and4 h
        obtain ⟨h0, h5⟩ := and4 h0
        obtain ⟨h0, h4⟩ := and4 h0
        obtain ⟨h0, h3⟩ := and4 h0
        obtain ⟨h1, h2⟩ := and4 h0
        have k := g.good
        obtain ⟨hi1, hs⟩ := ckI_ok it X sc N tg iter ts k h1 ht h5
        exact ss_for (g.po h2) (k.calm h1) hi1 (tgOf_ok ht) (of_decide_eq_true h3) (names_ok g h4) (ckSs_ok b X { f with tp := false } sc N body g.noloop h6) (hs _)
    · cases h
  | .while_ c b, X, f, sc, N, st, g, h => by
    unfold ckS at h
    split at h
    · obtain ⟨h0, h4⟩ := and4 h
      obtain ⟨h0, h3⟩ := and4 h0
      obtain ⟨h1, h2⟩ := and4 h0
      exact ss_while (g.po h1) ((ckX_ok _ _ _ _ _ g.good h3).st h2) (ckSs_ok b X f sc N _ g h4)
    · cases h
  | .try_ b c i hd, X, f, sc, N, st, g, h => by
    unfold ckS at h
    split at h
    · rename_i body nm np n s0 suite pos' pos
      obtain ⟨h0, h11⟩ := and4 h
      obtain ⟨h0, h10⟩ := and4 h0
      obtain ⟨h0, h9⟩ := and4 h0
      obtain ⟨h0, h8⟩ := and4 h0
      obtain ⟨h0, h7⟩ := and4 h0
      obtain ⟨h0, h6⟩ := and4 h0
      obtain ⟨h0, h5⟩ := and4 h0
      obtain ⟨h0, h4⟩ := and4 h0
      obtain ⟨h0, h3⟩ := and4 h0
      obtain ⟨h1, h2⟩ := and4 h0
      obtain ⟨d1, d2, d3⟩ := g.df h3
      obtain ⟨c1, c2⟩ := clsIs_ok g.good h4
      exact ss_try d1 d2 d3 (locB_ok g h9) (of_decide_eq_true h7) (by simpa using h8) ⟨glb_ok g.good h5, (okn_ok h6).1, .inl c1⟩ (fun c' hc' => g.exm c c' hc' c2) g.nc
        (fun pn xe => ckSs_ok b (X.tr pn xe) { f with po := false, df := false } sc N body (g.tr pn xe) h10)
        (fun a oe pn => ckSs_ok hd (X.suite a ((a, oe) :: pn)) { f with cm := false, po := false, df := false } sc N (s0 :: suite) (g.suite a _) h11) h2
    · cases h
theorem ckSs_ok : ∀ (xs : List Ev.S) (X : Cx) (f : Fl) (sc : Scope) (N : List Str) (sts : List Stmt), GoodS B X F G sc f → ckSs G xs f sc N sts = true → SSs f.tp B X N F sts xs
  | [], X, f, sc, N, sts, g, h => by
    cases sts with
    | nil => exact sss_nil
    | cons _ _ => unfold ckSs at h; cases h
  | x :: xs, X, f, sc, N, sts, g, h => by
    cases sts with
    | nil => unfold ckSs at h; cases h
    | cons st r =>
      unfold ckSs at h
      obtain ⟨h1, h2⟩ := and4 h
      exact sss_cons (ckS_ok x X f sc N st g h1) (ckSs_ok xs X f sc N r g h2)
end
end
end Ev
namespace Ev
open PySem PySem.Spec PyProof.Rows L2
/-- a def of the text -/
structure Tx where
  name : Str
  st : Stmt
  N : List Str
  ps : List Str
def scopeB (N ps : List Str) (sc : Scope) : Bool :=
  (match sc.kind with | .function => true | _ => false) && !sc.isCoroutine && !sc.isGenerator && nodupB N && decide (N.take ps.length = ps) && (ps.all fun x => match sc.names.lookup x with | some .local => true | some .cell => true | _ => false) &&
  (sc.names.all fun y => match y.2 with | .free => false | _ => true)
def ckDf (G : List (Str × Gv)) (t : Tx) (df : Df) : Bool :=
  scopeB t.N t.ps (defScope t.st) && (df.pars == t.ps.length) && ckSs G df.body ⟨true, true, true, true⟩ (defScope t.st) t.N (defBody t.st)
theorem scopeB_ok {N ps : List Str} {sc : Scope} (h : scopeB N ps sc = true) : FnScope N ps sc := by
  unfold scopeB at h
  simp only [Bool.and_eq_true, List.all_eq_true] at h
  obtain ⟨⟨⟨⟨⟨⟨h1, h2⟩, h3⟩, h4⟩, h5⟩, h6⟩, h7⟩ := h
  refine ⟨?_, by simpa using h2, by simpa using h3, nodupB_ok h4, of_decide_eq_true h5, fun x hx => ?_, fun y hy e => ?_⟩
  · split at h1
    · assumption
    · cases h1
  · have := h6 x hx
    split at this
    · exact .inl (by assumption)
    · exact .inr (by assumption)
    · cases this
  · have := h7 y hy
    rw [e] at this
    cases this
def GvK (B : Bk) (mg : Str → Option Value) (n : Str) : Gv → Prop
  | .int i => ∃ t, mg n = some (.int i t)
  | .str l => ∃ t, mg n = some (.str (tS l) t)
  | .fn f => mg n = some (.ref (B.fa f))
  | .cls c => mg n = some (.ref (B.ca c)) ∧ c < B.nc
  | .blt => mg n = none
/-- what the module's top has left -/
structure Tops (B : Bk) (K : PySem.W.Frag) (mg : Str → Option Value) (p : Pg) (G : List (Str × Gv)) : Prop where
  tab : ∀ n g, G.lookup n = some g → GvK B mg n g
  exc : ExcK B K p.sub
  keep : ∀ f, PySem.W.keepIn K (.ref (B.fa f)) = true
  rz : RzK B K
  exm : ∀ c c', c' < B.nc → c < B.nc → PySem.W.exmOne K (.ref (B.ca c')) (.ref (B.ca c)) = some (p.sub c' c)
  nc : p.nc = B.nc
theorem fx_sub (p : Pg) (k : Nat) : (fx p k).sub = p.sub := by cases k <;> rfl
theorem fx_nc (p : Pg) (k : Nat) : (fx p k).nc = p.nc := by cases k <;> rfl
section
variable {B : Bk} {P : Program} {w : World} {K : PySem.W.Frag} {mg : Str → Option Value} {base : Heap} {p : Pg} {G : List (Str × Gv)}
theorem goodS_of {qual : Str} {scope : Scope} {f : Addr} {cdv : Value} {A : Around} {outer : List Env} {s : Shared} {H : Hp} {E : XK} {k : Nat} (T : Tops B K mg p G) (hk : scope.kind = .function)
    (hr : Room k (A.deeper (envOfC qual scope s.heap.objs.size f cdv))) (hof : OnlyF H) (ih : ∀ f, FnX B P w K mg base (fx p k) k f) :
    GoodS B (cxOf (L2.CX P w) P w K mg base [] qual scope f cdv A outer s H E) (fx p k) G scope ⟨true, true, true, true⟩ := by
  refine ⟨⟨rfl, fun n g h => ?_, fun _ => rfl, fun _ => ⟨k, hr, ih, hof⟩, ?_, by rw [fx_sub]; exact T.exc, T.keep⟩, fun _ => rfl, fun _ => passes_of (K := fun e s'' => L2.CX P w outer H s E e s'') rfl, fun _ => ⟨rfl, rfl, rfl⟩, hk, T.rz, fun c c' h1 h2 => by rw [fx_sub]; exact T.exm c c' h1 h2, by rw [fx_nc]; exact T.nc⟩
  · have := T.tab n g h
    cases g <;> exact this
  · have := hr.un
    show (A.deeper (envOfC qual scope s.heap.objs.size f cdv)).units + 66 < cLine
    omega
/-- every def, at every depth -/
theorem fnx_all (T : Tops B K mg p G) (hd : ∀ f df, p.defs[f]? = some df → ∃ (t : Tx) (fd : FuncData), Fun K t.name t.name t.st (B.fa f) fd ∧ Binds K fd t.ps [] ∧ ckDf G t df = true) : ∀ k f, FnX B P w K mg base (fx p k) k f
  | 0, f => fun A outer s H O us ds _ _ _ _ _ _ _ => trivial
  | k + 1, f => by
    cases e : p.defs[f]? with
    | none =>
      intro A outer s H O us ds _ _ _ _ _ _ _
      have : (fx p (k + 1)).call f ds = .stuck := by
        show (match p.defs[f]? with | some d => runDf (fx p k) d ds | none => .stuck) = _
        rw [e]
      rw [this]
      trivial
    | some df =>
      obtain ⟨t, fd, F, b, hc⟩ := hd f df e
      unfold ckDf at hc
      simp only [Bool.and_eq_true] at hc
      obtain ⟨⟨h1, h2⟩, h3⟩ := hc
      have S := scopeB_ok h1
      obtain ⟨oc, od, kV, doc, pm, an, cdv, ct, osl, rfl, lk, hcd⟩ := F.ex
      refine fnx_of (F := fx p k) (df := df) (fun ds => ?_) lk hcd S b (by simpa using h2) fun A outer s H E hr hof => ?_
      · show (match p.defs[f]? with | some d => runDf (fx p k) d ds | none => .stuck) = _
        rw [e]
      · exact ckSs_ok _ _ _ _ _ _ (goodS_of T S.kind hr hof (fnx_all T hd k)) h3
/-- a frame with one local parameter: a token is given out -/
theorem env_tok {M : Model} {A : Around} {E : Value → Shared → Prop} {s : Shared} {scope : Scope} {globals : Addr} {x : Str} {v : Value} {qual : Str} {func : Option Addr} {code : Value} {builtins : Addr} {Q : Env → Shared → Prop}
    (hk : scope.kind = .function) (hx : scope.names.lookup x = some .local)
    (hQ : ∀ env, env = newEnv scope s.heap.objs.size globals (cellsFrom (s.heap.objs.size + 1) scope.names []) qual func code none builtins →
      ∀ s', InCallC s env.locals (bindL env.kindOf [(x, v)] fun _ => none) env.cells (bindC env.kindOf [(x, v)] fun _ => none) s' → s'.toks = s.toks + 1 → Q env s') :
    wpAny M A (newFunctionEnv scope globals [] [(x, v)] qual func code none builtins) Q E s := by
  simp only [newFunctionEnv, Option.isSome_none, Bool.false_eq_true, if_false]
  refine wpAny_bind (wpAny_alloc ?_)
  refine wpAny_bind (wpAny_layCells _ (fun name kind cells => by cases hkc : kind == NameKind.cell <;> simp [hkc]) _ _ _ _ ?_)
  have ok := cellsFrom_ok scope.names (s.heap.push { cls := .type "frame", data := .dict #[] }) (s.heap.objs.size + 1) [] ⟨fun _ _ hm => (nomatch hm), List.Pairwise.nil⟩ (by rw [Heap.size_push]; exact Nat.le_refl _)
  rw [Heap.size_push] at ok
  rw [show ({ s with heap := s.heap.push { cls := .type "frame", data := .dict #[] } } : Shared).heap.objs.size = s.heap.objs.size + 1 from Heap.size_push ..]
  have X0 : InCallC s (newEnv scope s.heap.objs.size globals (cellsFrom (s.heap.objs.size + 1) scope.names []) qual func code none builtins).locals (fun _ => none) (newEnv scope s.heap.objs.size globals (cellsFrom (s.heap.objs.size + 1) scope.names []) qual func code none builtins).cells (fun _ => none) { s with heap := pushCells (s.heap.push { cls := .type "frame", data := .dict #[] }) scope.names } :=
    ⟨⟨⟨_, _, rfl⟩, (Heap.Ns.new s.heap (.type "frame")).keeps (pushCells_keeps _ _), fun b o e => pushCells_keeps _ _ b o (Heap.get?_push_of_some _ e), Nat.le_refl _⟩,
      fun n c hc => (ok.empty n c (mem_of_lookup hc)).1, ok.apart, fun n c hm => (ok.empty n c hm).2⟩
  refine wpAny_bind ?_
  rw [List.forIn_cons]
  have hl : (newEnv scope s.heap.objs.size globals (cellsFrom (s.heap.objs.size + 1) scope.names []) qual func code none builtins).kindOf x = some .local := hx
  refine wpAny_bind (wpAny_bind (wpAny_storeName_local hl X0.toInCall.ns (fun h' hn' hs' => wpAny_pure ?_) (by show (scope.kind == .class || _) = false; rw [hk]; rfl)))
  dsimp only
  rw [List.forIn_nil]
  refine wpAny_pure (wpAny_pure (hQ _ rfl _ ⟨⟨⟨h', _, rfl⟩, ?_, fun b o e => ?_, X0.toInCall.fresh⟩, fun k c hc => ?_, X0.apart, X0.above⟩ rfl))
  · unfold bindL
    rw [if_pos hl]
    exact hn'
  · exact hs'.extBut b o (Nat.ne_of_lt (Nat.lt_of_lt_of_le (Heap.lt_size e) X0.toInCall.fresh)) (X0.toInCall.keep b o e)
  · unfold bindC
    rw [if_pos hl]
    exact (X0.cell k c hc).sameBut hs' (Nat.ne_of_gt (X0.above k c (mem_of_lookup hc)))
end
end Ev
namespace Ev
open PySem PySem.Spec PyProof.Rows L2
theorem ints_dvs {B : Bk} {O : Addr → Prop} {h : Heap} {n : Nat} : ∀ {vs : List Value} {ns : List Int}, IntsAre vs ns → DVs B O h n vs (ns.map D.int)
  | _, _, .nil => .nil
  | _, _, .cons i t r => .cons (.int i t) (ints_dvs r)
section
variable {B : Bk} {P : Program} {w : World} {K : PySem.W.Frag} {mg : Str → Option Value} {p : Pg} {G : List (Str × Gv)}
/-- a call of the law at the top: its one parameter is a local name, so that a token is given out -/
theorem law_run {s : Shared} {mb : Str → Option Value} {k f : Nat} {t : Tx} {df : Df} {fd : FuncData} {x : Str} {a : Addr} {vs : List Value} {ns : List Int} (T : Tops B K mg p G)
    (hd : ∀ f df, p.defs[f]? = some df → ∃ (t : Tx) (fd : FuncData), Fun K t.name t.name t.st (B.fa f) fd ∧ Binds K fd t.ps [] ∧ ckDf G t df = true)
    (F : Fun K t.name t.name t.st (B.fa f) fd) (b : Binds K fd t.ps []) (hc : ckDf G t df = true) (hps : t.ps = [x]) (hx : (defScope t.st).names.lookup x = some .local)
    (KX : K.In s.heap) (hns : s.heap.Ns mainGlobals mg) (hb : s.heap.Ns builtinsNs mb) (hbb : ∀ x : Str, x ≠ "__name__" → mb x = bootBuiltins x) (hlim : s.heap.NoLimit) (hg : s.gens = #[])
    (ha : s.heap.get? a = some { cls := .type "list", data := .seq vs.toArray }) (hi : IntsAre vs ns) (hl : ns.length ≤ sizeLine) (hr : Room (k + 1) callerA)
    (res : runDf (fx p k) df [.list (ns.map D.int)] = .ok (.bool true)) :
    codeAny (model P w) callerA (.call (.ref (B.fa f)) ⟨[.ref a], []⟩) (fun r s' => r = .ok (.ret (.bool true)) ∧ OldK s.heap s'.heap ∧ s'.os = s.os ∧ AllBare s'.gens) s := by
  unfold ckDf at hc
  simp only [Bool.and_eq_true] at hc
  obtain ⟨⟨h1, h2⟩, h3⟩ := hc
  have S := scopeB_ok h1
  obtain ⟨oc, od, kV, doc, pm, an, cdv, ct, osl, rfl, lk, hcd⟩ := F.ex
  have e0 : Env0 P w K mg s.heap callerA [] s (fun _ => none) := ⟨rfl, ⟨KX, hns, ⟨mb, hb, hbb⟩, hlim⟩, fun b o e => ⟨e, rfl⟩, Nat.le_refl _, trivial, fun b hb => rfl, (fun b u z => nomatch z), .of_eq hg⟩
  have hof : OnlyF (fun _ => none) := fun b u z => nomatch z
  have hlp : ([.ref a] : List Value).length = t.ps.length := by rw [hps]; rfl
  have bb := b s [.ref a] KX (by rw [List.append_nil]; exact hlp)
  rw [List.append_nil, hps] at bb
  have r : ∀ n, DVs B (fun _ => False) s.heap n [.ref a] [.list (ns.map D.int)] := fun n => .cons (.list (fun z => z) ha (by rw [hi.length]; exact hl) (ints_dvs hi)) .nil
  unfold runDf at res
  have hpar : ([D.list (ns.map D.int)].length == df.pars) = true := by
    have e : df.pars = t.ps.length := by simpa using h2
    rw [e, hps]; rfl
  rw [hpar] at res
  refine codeAny_call_function hr.depth (KX _ _ lk) rfl S.co S.gen rfl (PySem.W.codeRec_of KX hcd) (bb _ _ _ _ ?_)
  refine env_tok S.kind hx fun env he s1 X ht => ?_
  subst he
  refine ⟨hlim.keeps X.toInCall.keep, codeAny_func ?_⟩
  have x' : InCallC s s.heap.objs.size (bindL (envOfC t.name (defScope t.st) s.heap.objs.size (B.fa f) cdv).kindOf (t.ps.zip [.ref a]) fun _ => none) (cellsFrom (s.heap.objs.size + 1) (defScope t.st).names []) (bindC (envOfC t.name (defScope t.st) s.heap.objs.size (B.fa f) cdv).kindOf (t.ps.zip [.ref a]) fun _ => none) s1 := by
    rw [hps]; exact X
  have st := sts_start (B := B) (O := fun _ => False) (E := fun _ _ _ => False) (ds := [.list (ns.map D.int)]) (k := df.slots) S hr.hd e0 hlp (by rw [ht]; exact Nat.le_add_left _ _) (fun b hb => by cases hb) (fun b z => z.elim) (r _) x' (by rw [ht]; exact Nat.le_succ _)
  have hbd := ckSs_ok _ _ _ _ _ _ (goodS_of (outer := []) (s := s) (E := fun _ _ _ => False) T S.kind (hr.deeper (envOfC t.name (defScope t.st) s.heap.objs.size (B.fa f) cdv)) hof (fnx_all (P := P) (w := w) (base := s.heap) T hd k)) h3 [] (fun _ => False) _ _ s1 st (fun _ b z => z.elim)
  have fin : ∀ {s' : Shared}, Inv (cxOf (L2.CX P w) P w K mg s.heap [] t.name (defScope t.st) (B.fa f) cdv callerA [] s (fun _ => none) (fun _ _ _ => False)) [] [] (fun _ => none) s' → OldK s.heap s'.heap ∧ s'.os = s.os ∧ AllBare s'.gens := fun J =>
    ⟨OldK.of_keep fun b o e => J.base.keep b o e rfl (fun z => by cases z) (fun z => by cases z), J.os, J.bare⟩
  cases eo : Ev.execs (fx p k) df.body ([D.list (ns.map D.int)].map .dat ++ List.replicate df.slots .un) with
  | stuck => rw [eo] at res; cases res
  | brk ρ' => rw [eo] at res; cases res
  | next ρ' => rw [eo] at res; cases res
  | err c => rw [eo] at res; cases res
  | ret d =>
    rw [eo] at res hbd
    have ed : d = .bool true := by cases res; rfl
    subst ed
    refine wpAny_mono hbd (fun fl s' ⟨u, q, J, q2, hdv⟩ => ?_) fun e s' he => ?_
    · subst q
      cases hdv
      obtain ⟨u1, u2, u3⟩ := fin J
      exact ⟨rfl, u1, u2, u3⟩
    · have he : wpAny (model P w) (callerA.deeper (envOfC t.name (defScope t.st) s.heap.objs.size (B.fa f) cdv)) (leaving (envOfC t.name (defScope t.st) s.heap.objs.size (B.fa f) cdv) e) (fun _ s'' => L2.CX P w [] (fun _ => none) s (fun _ _ _ => False) e s'') (fun e' s'' => L2.CX P w [] (fun _ => none) s (fun _ _ _ => False) e' s'') s' := he
      exact wpAny_mono he (fun _ _ ⟨_, _, _, _, _, _, _, _, _, _, _, _, z⟩ => z.elim) fun _ _ ⟨_, _, _, _, _, _, _, _, _, _, _, _, z⟩ => z.elim
end
/-- the goal that k_head leaves -/
theorem walk_ev {l : PySem.W.OpenLaw} {n k : Nat} {q : Program} {loose : List Str} {XP : (Str → Option Value) → Heap → Prop} {YP : World → Heap → Prop} {d : DefRec} {K : Params → PySem.W.Frag} {p : Pg} {G : List (Str × Gv)} {df : Df} {x : Str} {f : Nat}
    (hn : l.most = some n) (hn2 : n ≤ sizeLine) (hdf : d.params.defaults = []) (hr : Room (k + 1) callerA)
    (hY : ∀ (w : World) (h : Heap), YP w h → (K w.params).In h)
    (F : ∀ (w : World) (mg : Str → Option Value) (fa : Addr) (h : Heap), (K w.params).In h → h.Ns mainGlobals mg → mg d.name = some (.ref fa) →
      ∃ (B : Bk) (t : Tx) (fd : FuncData), Tops B (K w.params) mg p G ∧ (∀ f df, p.defs[f]? = some df → ∃ (t : Tx) (fd : FuncData), Fun (K w.params) t.name t.name t.st (B.fa f) fd ∧ Binds (K w.params) fd t.ps [] ∧ ckDf G t df = true) ∧
        Fun (K w.params) t.name t.name t.st (B.fa f) fd ∧ Binds (K w.params) fd t.ps [] ∧ ckDf G t df = true ∧ t.ps = [x] ∧ (defScope t.st).names.lookup x = some .local ∧ B.fa f = fa)
    (res : ∀ ns : List Int, ns.length ≤ n → runDf (fx p k) df [.list (ns.map D.int)] = .ok (.bool true)) :
    PySem.W.WalkO q loose XP YP l.row.toRowW d [] (fun f vs => PySem.call f vs) := by
  refine Att.attach_call hn hdf fun w s₀ s₁ mg mb fa o pm cd doc a vs ns G Y ho hd hcd hmg hobj hints hlen hg => ?_
  have KX := hY w _ Y
  obtain ⟨B, t, fd, T, hds, F1, b1, c1, hps, hx, rfl⟩ := F w mg fa _ KX G.T.g hmg
  exact law_run T hds F1 b1 c1 hps hx KX G.T.g G.T.b G.T.builtins G.T.nolimit hg hobj hints (Nat.le_trans hlen hn2) hr (res ns hlen)
end Ev
namespace Ev
open PySem PySem.Spec PyProof.Rows L2
def adr (mg : Str → Option Value) (n : Str) : Addr := match mg n with | some (.ref a) => a | _ => 0
theorem adr_of {mg : Str → Option Value} {n : Str} {a : Addr} (h : mg n = some (.ref a)) : adr mg n = a := by
  unfold adr
  rw [h]
def nameAt (l : List Str) (i : Nat) : Str := (l[i]?).getD ((l[0]?).getD "")
def bkOf (mg : Str → Option Value) (fs cs : List Str) : Bk := ⟨fun f => adr mg (nameAt fs f), fun c => adr mg (nameAt cs c), cs.length⟩
/-- a def of the top -/
structure DefK (K : PySem.W.Frag) (t : Tx) : Prop where
  ex : ∃ (f : Addr) (fd : FuncData), PySem.W.nsIn K mainGlobals t.name = some (some (.ref f)) ∧ Fun K t.name t.name t.st f fd ∧ Binds K fd t.ps []
theorem defk {K : PySem.W.Frag} {t : Tx} {f : Addr} {oc : Value} {od an : Option Addr} {osl : Array (Option Value)} {kV doc pm cdv ct : Value} (a : PySem.W.nsIn K mainGlobals t.name = some (some (.ref f)))
    (l : K.lookup f = some ⟨oc, od, .func (PySem.W.fnOf t.name t.name (defArgs t.st) (defBody t.st) (defScope t.st) .none kV doc pm an cdv ct), osl⟩)
    (c : PySem.W.codeIn K cdv t.name = true) (k : PySem.W.keepIn K (.ref f) = true)
    (h : ∀ (kV doc pm : Value) (an : Option Addr) (cdv ct : Value) (us : List Value), us.length = t.ps.length → bindArgs (PySem.W.fnOf t.name t.name (defArgs t.st) (defBody t.st) (defScope t.st) .none kV doc pm an cdv ct) ⟨us, []⟩ = pure (t.ps.zip us)) : DefK K t :=
  ⟨f, _, a, fun_mk l c k, (fun_mk l c k).binds h⟩
/-- an exception class of the top -/
structure ClsK (K : PySem.W.Frag) (n : Str) (C : Addr) : Prop where
  at_ : PySem.W.nsIn K mainGlobals n = some (some (.ref C))
  ga : PySem.W.findIn K (.ref C) "__getattribute__" = some (some (.builtin "BaseException.__getattribute__"))
  gt : PySem.W.findIn K (.ref C) "__getattr__" = some none
  be : PySem.W.subIn K (.ref C) (.type "BaseException") = some true
  hd : PySem.W.hasDictIn K C = true
  cl : PySem.W.findIn K (.ref C) "__class__" = some (some (.builtin "object.__class__"))
  mr : PySem.W.mroIn K C (.type "object") = some true
  ei : PySem.W.excIn K C [.type "ValueError", .type "Exception", .type "BaseException", .type "object"] "ValueError.__new__" = true
  kp : PySem.W.keepIn K (.ref C) = true
  tt : PySem.W.typeIn K (.ref C) = some (.type "type")
  ic : PySem.W.isClsIn K C = true
theorem kit_of {K : PySem.W.Frag} {C D : Addr} {b : Bool} (x : ClsK K n D) (h : PySem.W.subIn K (.ref C) (.ref D) = some b) (hr : PySem.W.subIn K (.ref D) (.ref D) = some true) : PySem.W.kitOne K (.ref C) (.ref D) = some b := by
  have e2 : ((PySem.W.clsIn K D).isSome && PySem.W.typeIn K (.ref D) == some (.type "type")) = true := by
    have h2' : (PySem.W.clsIn K D).isSome = true := x.ic
    rw [h2', x.tt] <;> rfl
  show (if ((Value.ref C) == .ref D) = true then some true else (if ((PySem.W.clsIn K D).isSome && PySem.W.typeIn K (.ref D) == some (.type "type")) = true then PySem.W.subIn K (.ref C) (.ref D) else none)) = some b
  by_cases e : ((Value.ref C) == .ref D) = true
  · rw [if_pos e]
    have : Value.ref C = .ref D := by simpa using e
    cases this
    rw [hr] at h
    exact h
  · rw [if_neg e, if_pos e2]
    exact h
theorem exm_of {K : PySem.W.Frag} {C D : Addr} {b : Bool} (x : ClsK K n D) (h : PySem.W.subIn K (.ref C) (.ref D) = some b) : PySem.W.exmOne K (.ref C) (.ref D) = some b := by
  have e1 : (PySem.W.subIn K (.ref D) (.type "BaseException") == some true) = true := by rw [x.be] <;> rfl
  have e2 : ((PySem.W.clsIn K D).isSome && PySem.W.typeIn K (.ref D) == some (.type "type")) = true := by
    have h2' : (PySem.W.clsIn K D).isSome = true := x.ic
    rw [h2', x.tt] <;> rfl
  show (if (PySem.W.subIn K (.ref D) (.type "BaseException") == some true) = true then (if ((PySem.W.clsIn K D).isSome && PySem.W.typeIn K (.ref D) == some (.type "type")) = true then PySem.W.subIn K (.ref C) (.ref D) else none) else none) = some b
  rw [if_pos e1, if_pos e2]
  exact h
/-- the table's entry against the names of defs and classes -/
def gvB (fs cs : List Str) (n : Str) : Gv → Bool
  | .fn f => decide (fs[f]? = some n)
  | .cls c => decide (cs[c]? = some n)
  | _ => true
def GvC (K : PySem.W.Frag) (n : Str) : Gv → Prop
  | .int i => ∃ t, PySem.W.nsIn K mainGlobals n = some (some (.int i t))
  | .str l => ∃ t, PySem.W.nsIn K mainGlobals n = some (some (.str (tS l) t))
  | .blt => PySem.W.nsIn K mainGlobals n = some none
  | _ => True
theorem gint {K : PySem.W.Frag} {n : Str} {i : Int} {t : Tok} (h : PySem.W.nsIn K mainGlobals n = some (some (.int i t))) : GvC K n (.int i) := ⟨t, h⟩
theorem gstr {K : PySem.W.Frag} {n : Str} {l : List Nat} {t : Tok} (h : PySem.W.nsIn K mainGlobals n = some (some (.str (tS l) t))) : GvC K n (.str l) := ⟨t, h⟩
theorem lookup_mem {α : Type} {n : Str} {v : α} : ∀ {l : List (Str × α)}, l.lookup n = some v → (n, v) ∈ l
  | (m, u) :: l, h => by
    rw [List.lookup_cons] at h
    split at h
    · rename_i e
      have : n = m := by simpa using e
      subst this
      cases h
      exact List.mem_cons_self
    · exact List.mem_cons_of_mem _ (lookup_mem h)
section
variable {K : PySem.W.Frag} {h : Heap} {mg : Str → Option Value} {p : Pg} {G : List (Str × Gv)} {ts : List Tx} {cs : List Str}
theorem tops_of (X : K.In h) (N : h.Ns mainGlobals mg) {t0 : Tx} {tr : List Tx} (hts : ts = t0 :: tr) (hd : ∀ t ∈ ts, DefK K t) {C : Nat → Addr} (hc : ∀ i n, cs[i]? = some n → ClsK K n (C i))
    (hs : ∀ i j, i < cs.length → j < cs.length → PySem.W.subIn K (.ref (C i)) (.ref (C j)) = some (p.sub i j)) (hrf : ∀ i, i < cs.length → p.sub i i = true) (hnc : p.nc = cs.length)
    (sp : PySem.W.specialIn K (.builtin "object.__class__") "__get__" = some (some (.builtin "getset_descriptor.__get__"))) (tk : PySem.W.takesIn K (.builtin "object.__class__") = some true)
    (hG : (G.all fun e => gvB (ts.map (·.name)) cs e.1 e.2) = true) (hGc : ∀ e ∈ G, GvC K e.1 e.2) : Tops (bkOf mg (ts.map (·.name)) cs) K mg p G := by
  have cad : ∀ i, i < cs.length → (bkOf mg (ts.map (·.name)) cs).ca i = C i ∧ ∃ n, ClsK K n (C i) := fun i hi => by
    have e := List.getElem?_eq_getElem hi
    have k := hc i _ e
    refine ⟨?_, _, k⟩
    show adr mg (nameAt cs i) = _
    have : nameAt cs i = cs[i] := by unfold nameAt; rw [e]; rfl
    rw [this]
    exact adr_of (PySem.W.mg_of X N k.at_)
  have sub2 : ∀ c d, c < cs.length → d < cs.length → PySem.W.subIn K (.ref ((bkOf mg (ts.map (·.name)) cs).ca c)) (.ref ((bkOf mg (ts.map (·.name)) cs).ca d)) = some (p.sub c d) := fun c d h1 h2 => by
    rw [(cad c h1).1, (cad d h2).1]
    exact hs c d h1 h2
  refine ⟨fun n g e => ?_, ⟨fun c h1 => ?_, fun c h1 => ?_, fun c h1 => ?_, fun c h1 => ?_, fun c h1 => ?_, sp, tk, fun c h1 => ?_, fun c d h1 h2 => ?_⟩, fun f => ?_, ⟨fun c h1 => ?_, fun c h1 => ?_, fun c h1 => ?_⟩, fun c c' h1 h2 => ?_, hnc⟩
  · have m := lookup_mem e
    have b := List.all_eq_true.mp hG _ m
    have q := hGc _ m
    cases g with
    | int i => obtain ⟨t, q⟩ := q; exact ⟨t, PySem.W.mg_of X N q⟩
    | str l => obtain ⟨t, q⟩ := q; exact ⟨t, PySem.W.mg_of X N q⟩
    | blt => exact PySem.W.mg_none_of X N q
    | fn f =>
      have b : (ts.map (·.name))[f]? = some n := of_decide_eq_true b
      rw [List.getElem?_map] at b
      cases et : ts[f]? with
      | none => rw [et] at b; cases b
      | some t =>
        rw [et] at b
        have en : t.name = n := by cases b; rfl
        obtain ⟨a, fd, ha, _, _⟩ := (hd t (List.mem_of_getElem? et)).ex
        have hm := PySem.W.mg_of X N ha
        show mg n = some (.ref (adr mg (nameAt (ts.map (·.name)) f)))
        have : nameAt (ts.map (·.name)) f = n := by
          unfold nameAt
          rw [List.getElem?_map, et]
          exact en
        rw [this, ← en, adr_of hm]
        exact hm
    | cls c =>
      have b : cs[c]? = some n := of_decide_eq_true b
      have hlt : c < cs.length := by
        rcases Nat.lt_or_ge c cs.length with q | q
        · exact q
        · rw [List.getElem?_eq_none q] at b; cases b
      have k := hc c n b
      refine ⟨?_, hlt⟩
      rw [(cad c hlt).1]
      exact PySem.W.mg_of X N k.at_
  · obtain ⟨e, n, k⟩ := cad c h1; rw [e]; exact k.ga
  · obtain ⟨e, n, k⟩ := cad c h1; rw [e]; exact k.gt
  · obtain ⟨e, n, k⟩ := cad c h1; rw [e]; exact k.be
  · obtain ⟨e, n, k⟩ := cad c h1; rw [e]; exact k.hd
  · obtain ⟨e, n, k⟩ := cad c h1; rw [e]; exact k.cl
  · obtain ⟨e, n, k⟩ := cad c h1; rw [e]; exact k.mr
  · obtain ⟨e, n, k⟩ := cad d h2
    have r := sub2 d d h2 h2
    rw [hrf d h2] at r
    have q := sub2 c d h1 h2
    rw [e] at r q ⊢
    exact kit_of k q r
  · show PySem.W.keepIn K (.ref (adr mg (nameAt (ts.map (·.name)) f))) = true
    have : ∃ t ∈ ts, nameAt (ts.map (·.name)) f = t.name := by
      unfold nameAt
      rw [List.getElem?_map]
      cases et : ts[f]? with
      | some t => exact ⟨t, List.mem_of_getElem? et, rfl⟩
      | none =>
        refine ⟨t0, by rw [hts]; exact List.mem_cons_self, ?_⟩
        rw [hts]; rfl
    obtain ⟨t, ht, e⟩ := this
    obtain ⟨a, fd, ha, F, _⟩ := (hd t ht).ex
    rw [e, adr_of (PySem.W.mg_of X N ha)]
    exact F.kp
  · obtain ⟨e, n, k⟩ := cad c h1; rw [e]; exact k.ei
  · obtain ⟨e, n, k⟩ := cad c h1; rw [e]; exact k.kp
  · obtain ⟨e, n, k⟩ := cad c h1; rw [e]; exact k.tt
  · have q := sub2 c' c h1 h2
    obtain ⟨e, n, k⟩ := cad c h2
    rw [e] at q ⊢
    exact exm_of k q
theorem defs_of (X : K.In h) (N : h.Ns mainGlobals mg) (hd : ∀ t ∈ ts, DefK K t) (hlen : p.defs.length = ts.length) (hck : ∀ (f : Nat) (t : Tx) (df : Df), ts[f]? = some t → p.defs[f]? = some df → ckDf G t df = true) :
    ∀ f df, p.defs[f]? = some df → ∃ (t : Tx) (fd : FuncData), ts[f]? = some t ∧ Fun K t.name t.name t.st ((bkOf mg (ts.map (·.name)) cs).fa f) fd ∧ Binds K fd t.ps [] ∧ ckDf G t df = true := fun f df e => by
  have hf : f < ts.length := by
    rcases Nat.lt_or_ge f ts.length with q | q
    · exact q
    · rw [List.getElem?_eq_none (by rw [hlen]; exact q)] at e; cases e
  have et := List.getElem?_eq_getElem hf
  obtain ⟨a, fd, ha, F, b⟩ := (hd _ (List.mem_of_getElem? et)).ex
  refine ⟨ts[f], fd, et, ?_, b, hck f _ df et e⟩
  show Fun K _ _ _ (adr mg (nameAt (ts.map (·.name)) f)) fd
  have : nameAt (ts.map (·.name)) f = (ts[f]).name := by
    unfold nameAt
    rw [List.getElem?_map, et]; rfl
  rw [this, adr_of (PySem.W.mg_of X N ha)]
  exact F
end
end Ev
namespace Ev
section
variable {α β γ : Type}
theorem R.bnd_ok (a : α) (f : α → R β) : (R.ok a).bind f = f a := rfl
theorem R.bind_err (c : Nat) (f : α → R β) : (R.err c : R α).bind f = .err c := rfl
theorem R.bind_stuck (f : α → R β) : (R.stuck : R α).bind f = .stuck := rfl
theorem R.to_ok (a : α) (f : α → O) : (R.ok a).to f = f a := rfl
theorem R.to_err (c : Nat) (f : α → O) : (R.err c : R α).to f = .err c := rfl
theorem R.guard_true (x : R α) : R.guard true x = x := rfl
theorem R.clm_ok (a : α) : (R.ok a).calm = .ok a := rfl
end
theorem then_next (ρ : List Sl) (f : List Sl → O) : (O.next ρ).then f = f ρ := rfl
theorem then_ret (d : D) (f : List Sl → O) : (O.ret d).then f = .ret d := rfl
theorem then_err (c : Nat) (f : List Sl → O) : (O.err c).then f = .err c := rfl
theorem then_brk (ρ : List Sl) (f : List Sl → O) : (O.brk ρ).then f = .brk ρ := rfl
theorem res_ret (d : D) : (O.ret d).res = .ok d := rfl
theorem res_next (ρ : List Sl) : (O.next ρ).res = .ok .none := rfl
theorem res_err (c : Nat) : (O.err c).res = .err c := rfl
theorem thaw_nil (h : Nat → Bool) (i : Nat) : thaw h i [] = [] := rfl
theorem thawM_dat (h : Nat → Bool) (i : Nat) (d : D) (r : List Sl) : thaw h i (.dat d :: r) = .dat d :: thaw h (i + 1) r := rfl
theorem thaw_un (h : Nat → Bool) (i : Nat) (r : List Sl) : thaw h i (.un :: r) = .un :: thaw h (i + 1) r := rfl
theorem thawM_own (h : Nat → Bool) (i : Nat) (d : D) (r : List Sl) : thaw h i (.own d :: r) = (match h i with | true => .dat d | false => .own d) :: thaw h (i + 1) r := rfl
theorem thaw_no {h : Nat → Bool} {i : Nat} {s : Sl} {r : List Sl} (hh : h i = false) : thaw h i (s :: r) = s :: thaw h (i + 1) r := by
  cases s with
  | own d => show (match h i with | true => Sl.dat d | false => .own d) :: _ = _; rw [hh]
  | _ => rfl
/-- a slot that is not the frame's own -/
def sl : Option D → Sl
  | some d => .dat d
  | none => .un
theorem thaw_sl (h : Nat → Bool) (i : Nat) (x : Option D) (r : List Sl) : thaw h i (sl x :: r) = sl x :: thaw h (i + 1) r := by cases x <;> rfl
theorem sl_some (d : D) : sl (some d) = .dat d := rfl
theorem after_scalar {h : Nat → Bool} {ρ : List Sl} {d : D} (e : scalar d = true) : after h ρ d = ρ := by unfold after; rw [e]
theorem after_thaw {h : Nat → Bool} {ρ : List Sl} {d : D} (e : scalar d = false) : after h ρ d = thaw h 0 ρ := by unfold after; rw [e]
theorem filtRM {f : D → R (Option D)} {g : D → Option D} : ∀ {ds : List D}, (∀ d ∈ ds, f d = .ok (g d)) → filtR f ds = .ok (ds.filterMap g)
  | [], _ => rfl
  | d :: ds, h => by
    rw [filtR, h d List.mem_cons_self, R.bnd_ok, filtRM (fun d' h' => h d' (List.mem_cons_of_mem _ h')), R.bnd_ok, List.filterMap_cons]
    cases g d <;> rfl
theorem flatRM {f : D → R (List D)} {g : D → List D} : ∀ {ds : List D}, (∀ d ∈ ds, f d = .ok (g d)) → flatR f ds = .ok (ds.flatMap g)
  | [], _ => rfl
  | d :: ds, h => by
    rw [flatR, h d List.mem_cons_self, R.bnd_ok, flatRM (fun d' h' => h d' (List.mem_cons_of_mem _ h')), R.bnd_ok, List.flatMap_cons]
/-- over the images of a list -/
theorem filtR_map {α : Type} {f : D → R (Option D)} {e : α → D} {p : α → Bool} {g : α → D} {l : List α} (h : ∀ a ∈ l, f (e a) = .ok (if p a then some (g a) else none)) : filtR f (l.map e) = .ok ((l.filter p).map g) := by
  induction l with
  | nil => rfl
  | cons a l ih =>
    rw [List.map_cons, filtR, h a List.mem_cons_self, R.bnd_ok, ih fun b hb => h b (List.mem_cons_of_mem _ hb), R.bnd_ok, List.filter_cons]
    cases p a <;> rfl
theorem filtR_mapAll {α : Type} {f : D → R (Option D)} {e : α → D} {g : α → D} {l : List α} (h : ∀ a ∈ l, f (e a) = .ok (some (g a))) : filtR f (l.map e) = .ok (l.map g) := by
  induction l with
  | nil => rfl
  | cons a l ih => rw [List.map_cons, filtR, h a List.mem_cons_self, R.bnd_ok, ih fun b hb => h b (List.mem_cons_of_mem _ hb), R.bnd_ok, List.map_cons]
theorem flatR_map {α : Type} {f : D → R (List D)} {e : α → D} {g : α → List D} {l : List α} (h : ∀ a ∈ l, f (e a) = .ok (g a)) : flatR f (l.map e) = .ok (l.flatMap g) := by
  induction l with
  | nil => rfl
  | cons a l ih => rw [List.map_cons, flatR, h a List.mem_cons_self, R.bnd_ok, ih fun b hb => h b (List.mem_cons_of_mem _ hb), R.bnd_ok, List.flatMap_cons]
/-- a loop that is never left -/
theorem forO_inv {t : List Nat} {b : List Sl → O} (I : List D → List Sl → Prop) : ∀ (ds pre : List D) (ρ : List Sl), I pre ρ →
    (∀ (pre' post : List D) (d : D) (ρ : List Sl), pre ++ ds = pre' ++ d :: post → I pre' ρ → ∃ ρ', (unpack t d ρ).then b = .next ρ' ∧ I (pre' ++ [d]) ρ') → ∃ ρ', forO t b ds ρ = .next ρ' ∧ I (pre ++ ds) ρ'
  | [], pre, ρ, h, _ => ⟨ρ, rfl, by rw [List.append_nil]; exact h⟩
  | d :: ds, pre, ρ, h, step => by
    obtain ⟨ρ1, e1, i1⟩ := step pre ds d ρ rfl h
    obtain ⟨ρ2, e2, i2⟩ := forO_inv I ds (pre ++ [d]) ρ1 i1 (fun pre' post d' ρ' e i => step pre' post d' ρ' (by rw [← e, List.append_assoc]; rfl) i)
    refine ⟨ρ2, ?_, by rw [List.append_assoc] at i2; exact i2⟩
    rw [forO, e1]
    exact e2
/-- over the images of a list -/
theorem forO_map {α : Type} {t : List Nat} {b : List Sl → O} {e : α → D} (I : List α → List Sl → Prop) {l : List α} {ρ : List Sl} (h0 : I [] ρ)
    (step : ∀ (pre post : List α) (a : α) (ρ : List Sl), l = pre ++ a :: post → I pre ρ → ∃ ρ', (unpack t (e a) ρ).then b = .next ρ' ∧ I (pre ++ [a]) ρ') : ∃ ρ', forO t b (l.map e) ρ = .next ρ' ∧ I l ρ' := by
  suffices H : ∀ (l2 pre : List α) (ρ : List Sl), pre ++ l2 = l → I pre ρ → ∃ ρ', forO t b (l2.map e) ρ = .next ρ' ∧ I l ρ' from H l [] ρ rfl h0
  intro l2
  induction l2 with
  | nil => intro pre ρ ep i; exact ⟨ρ, rfl, by rw [← ep, List.append_nil]; exact i⟩
  | cons a l2 ih =>
    intro pre ρ ep i
    obtain ⟨ρ1, e1, i1⟩ := step pre l2 a ρ ep.symm i
    obtain ⟨ρ2, e2, i2⟩ := ih (pre ++ [a]) ρ1 (by rw [← ep, List.append_assoc]; rfl) i1
    refine ⟨ρ2, ?_, i2⟩
    rw [List.map_cons, forO, e1]
    exact e2
theorem whileO_done {c : List Sl → R Bool} {b : List Sl → O} {n : Nat} {ρ : List Sl} (h : c ρ = .ok false) : whileO c b (n + 1) ρ = .next ρ := by
  rw [whileO, h]; rfl
theorem whileO_step {c : List Sl → R Bool} {b : List Sl → O} {n : Nat} {ρ ρ' : List Sl} (h : c ρ = .ok true) (hb : b ρ = .next ρ') : whileO c b (n + 1) ρ = whileO c b n ρ' := by
  rw [whileO, h]
  show (match b ρ with | .next ρ' => whileO c b n ρ' | .brk ρ' => .next ρ' | o => o) = _
  rw [hb]
/-- a call, one level down -/
theorem call_at {p : Pg} {k f : Nat} {df : Df} {ds : List D} (h : p.defs[f]? = some df) : (fx p (k + 1)).call f ds = runDf (fx p k) df ds := by
  show (match p.defs[f]? with | some d => runDf (fx p k) d ds | none => .stuck) = _
  rw [h]
/-- what ends true or false, by computation -/
def isT : R D → Bool
  | .ok (.bool true) => true
  | _ => false
def isF : R D → Bool
  | .ok (.bool false) => true
  | _ => false
theorem isT_ok {r : R D} (h : isT r = true) : r = .ok (.bool true) := by
  unfold isT at h
  split at h
  · rfl
  · cases h
theorem isF_ok {r : R D} (h : isF r = true) : r = .ok (.bool false) := by
  unfold isF at h
  split at h
  · rfl
  · cases h
theorem range_ev (n : Nat) : rngD 0 (n : Int) = (List.range n).map fun k => D.int (k : Nat) := by
  unfold rngD
  rw [Int.sub_zero, Int.toNat_natCast]
  refine List.map_congr_left fun k _ => ?_
  rw [Int.zero_add]
end Ev
namespace Ev
theorem R.bind_congr {α β : Type} {x x' : R α} {f : α → R β} (h : x = x') : x.bind f = x'.bind f := by rw [h]
theorem R.to_congr {α : Type} {x x' : R α} {f : α → O} (h : x = x') : x.to f = x'.to f := by rw [h]
theorem O.then_congr {x x' : O} {f : List Sl → O} (h : x = x') : x.then f = x'.then f := by rw [h]
theorem R.guard_congr {α : Type} {b b' : Bool} {x : R α} (h : b = b') : R.guard b x = R.guard b' x := by rw [h]
theorem isi_int_int {s : Nat → Nat → Bool} {i : Int} : isiD s (.int i) .int = .ok true := rfl
theorem isi_int_bool {s : Nat → Nat → Bool} {i : Int} : isiD s (.int i) .bool = .ok false := rfl
theorem isi_int_str {s : Nat → Nat → Bool} {i : Int} : isiD s (.int i) .str = .ok false := rfl
theorem isi_int_tuple {s : Nat → Nat → Bool} {i : Int} : isiD s (.int i) .tuple = .ok false := rfl
theorem isi_int_list {s : Nat → Nat → Bool} {i : Int} : isiD s (.int i) .list = .ok false := rfl
theorem isi_str_int {s : Nat → Nat → Bool} {l : List Nat} : isiD s (.str l) .int = .ok false := rfl
theorem isi_str_bool {s : Nat → Nat → Bool} {l : List Nat} : isiD s (.str l) .bool = .ok false := rfl
theorem isi_str_str {s : Nat → Nat → Bool} {l : List Nat} : isiD s (.str l) .str = .ok true := rfl
theorem isi_str_tuple {s : Nat → Nat → Bool} {l : List Nat} : isiD s (.str l) .tuple = .ok false := rfl
theorem isi_str_list {s : Nat → Nat → Bool} {l : List Nat} : isiD s (.str l) .list = .ok false := rfl
theorem isi_tuple_tuple {s : Nat → Nat → Bool} {l : List D} : isiD s (.tuple l) .tuple = .ok true := rfl
theorem isi_tuple_str {s : Nat → Nat → Bool} {l : List D} : isiD s (.tuple l) .str = .ok false := rfl
theorem isi_tuple_list {s : Nat → Nat → Bool} {l : List D} : isiD s (.tuple l) .list = .ok false := rfl
theorem isi_list_list {s : Nat → Nat → Bool} {l : List D} : isiD s (.list l) .list = .ok true := rfl
theorem isi_list_tuple {s : Nat → Nat → Bool} {l : List D} : isiD s (.list l) .tuple = .ok false := rfl
theorem truth_bool {b : Bool} : truth (.bool b) = .ok b := rfl
theorem cmp_lt_int {a b : Int} : cmpD .lt (.int a) (.int b) = .ok (decide (a < b)) := rfl
theorem cmp_gt_int {a b : Int} : cmpD .gt (.int a) (.int b) = .ok (decide (b < a)) := rfl
theorem not_dec {p q : Prop} [Decidable p] [Decidable q] (h : q ↔ ¬ p) : (!decide p) = decide q := by
  by_cases hp : p
  · rw [decide_eq_true hp, decide_eq_false fun z => h.mp z hp]; rfl
  · rw [decide_eq_false hp, decide_eq_true (h.mpr hp)]; rfl
theorem cmp_le_int {a b : Int} : cmpD .le (.int a) (.int b) = .ok (decide (a ≤ b)) := by
  show R.ok (!decide (b < a)) = _
  rw [not_dec (q := a ≤ b) (by omega)]
theorem cmp_ge_int {a b : Int} : cmpD .ge (.int a) (.int b) = .ok (decide (b ≤ a)) := by
  show R.ok (!decide (a < b)) = _
  rw [not_dec (q := b ≤ a) (by omega)]
theorem cmp_eq_int {a b : Int} : cmpD .eq (.int a) (.int b) = .ok (decide (a = b)) := by
  show R.ok (a == b) = _
  rfl
theorem cmp_ne_int {a b : Int} : cmpD .ne (.int a) (.int b) = .ok (decide (a ≠ b)) := by
  show R.ok (!(a == b)) = _
  rw [show (!(a == b)) = decide (a ≠ b) from by rw [show (a == b) = decide (a = b) from rfl]; exact not_dec Iff.rfl]
theorem cmp_lt_str {a b : List Nat} : cmpD .lt (.str a) (.str b) = .ok (decide (a < b)) := rfl
theorem cmp_gt_str {a b : List Nat} : cmpD .gt (.str a) (.str b) = .ok (decide (b < a)) := rfl
theorem cmp_eq_str {a b : List Nat} : cmpD .eq (.str a) (.str b) = .ok (a == b) := rfl
theorem cmp_ne_str {a b : List Nat} : cmpD .ne (.str a) (.str b) = .ok (!(a == b)) := rfl
theorem cmp_in_sign {c : Nat} {b : List Nat} : cmpD .in_ (.str [c]) (.str b) = .ok (b.contains c) := rfl
theorem cmp_notin_sign {c : Nat} {b : List Nat} : cmpD .notin (.str [c]) (.str b) = .ok (!b.contains c) := rfl
theorem cmp_isnot_bool {a b : Bool} : cmpD .isnot (.bool a) (.bool b) = .ok (!(a == b)) := rfl
theorem cmp_is_bool {a b : Bool} : cmpD .is (.bool a) (.bool b) = .ok (a == b) := rfl
theorem cmp_is_none {d : D} (h : isNone d = false) : cmpD .is d .none = .ok false := by
  cases d <;> first | rfl | cases h
theorem cmp_isnot_none {d : D} (h : isNone d = false) : cmpD .isnot d .none = .ok true := by
  cases d <;> first | rfl | cases h
theorem cmp_eq_bool {a b : Bool} : cmpD .eq (.bool a) (.bool b) = .ok (a == b) := rfl
theorem cmp_ne_bool {a b : Bool} : cmpD .ne (.bool a) (.bool b) = .ok (!(a == b)) := rfl
/-- two lists of coded items are equal just if the items are -/
theorem eqL_map {α : Type} {e : α → D} {q : α → α → Bool} (h : ∀ a b, eqB (e a) (e b) = q a b) : ∀ l m : List α, eqL (l.map e) (m.map e) = (match l, m with | [], [] => true | _, _ => eqL (l.map e) (m.map e))
  | [], [] => rfl
  | [], _ :: _ => rfl
  | _ :: _, [] => rfl
  | _ :: _, _ :: _ => rfl
theorem eqL_beq {α : Type} [BEq α] [LawfulBEq α] {e : α → D} (h : ∀ a b, eqB (e a) (e b) = (a == b)) : ∀ l m : List α, eqL (l.map e) (m.map e) = (l == m)
  | [], [] => by rw [List.map_nil, eqL]; rfl
  | [], _ :: _ => by rw [List.map_nil, List.map_cons, eqL]; rfl; all_goals simp
  | _ :: _, [] => by rw [List.map_nil, List.map_cons, eqL]; rfl; all_goals simp
  | a :: l, b :: m => by
    rw [List.map_cons, List.map_cons, eqL, h, eqL_beq h l m]
    rfl
theorem eqB_int (a b : Int) : eqB (.int a) (.int b) = (a == b) := by rw [eqB]
theorem eqB_str (a b : List Nat) : eqB (.str a) (.str b) = (a == b) := by rw [eqB]
theorem eqB_list (a b : List D) : eqB (.list a) (.list b) = eqL a b := by rw [eqB]
theorem eqB_tuple (a b : List D) : eqB (.tuple a) (.tuple b) = eqL a b := by rw [eqB]
theorem shp_all {n : Nat} {α : Type} {e : α → D} (h : ∀ a, shp n (e a) = true) : ∀ l : List α, (l.map e).all (shp n) = true
  | [] => rfl
  | a :: l => by rw [List.map_cons, List.all_cons, h, shp_all h l]; rfl
theorem shp_list {n : Nat} {l : List D} : shp (n + 1) (.list l) = l.all (shp n) := by rw [shp]
theorem shp_tuple {n : Nat} {l : List D} : shp (n + 1) (.tuple l) = l.all (shp n) := by rw [shp]
theorem shp_str {n : Nat} {l : List Nat} : shp n (.str l) = true := by cases n <;> rw [shp]
theorem shp_int {n : Nat} {l : Int} : shp n (.int l) = true := by cases n <;> rw [shp]
theorem eqD_ok {a b : D} (ha : shp 60 a = true) (hb : shp 60 b = true) : eqD a b = .ok (eqB a b) := by
  unfold eqD
  rw [ha, hb]
  rfl
theorem cmp_eq_ok {a b : D} {t : Bool} (h : eqD a b = .ok t) : cmpD .eq a b = .ok t := h
theorem cmp_ne_ok {a b : D} {t : Bool} (h : eqD a b = .ok t) : cmpD .ne a b = .ok (!t) := by
  show (eqD a b).bind _ = _
  rw [h]
  rfl
theorem blt_len_list {l : List D} : bltD .len [.list l] = .ok (.int l.length) := rfl
theorem blt_len_tuple {l : List D} : bltD .len [.tuple l] = .ok (.int l.length) := rfl
theorem blt_len_str {l : List Nat} : bltD .len [.str l] = .ok (.int l.length) := rfl
theorem allBool_map {α : Type} (p : α → Bool) : ∀ l : List α, allBool (l.map fun a => D.bool (p a)) = .ok (l.map p)
  | [] => rfl
  | a :: l => by
    show (allBool (l.map fun a => D.bool (p a))).bind _ = _
    rw [allBool_map p l]
    rfl
theorem allIntM {α : Type} (p : α → Int) : ∀ l : List α, allInt (l.map fun a => D.int (p a)) = .ok (l.map p)
  | [] => rfl
  | a :: l => by
    show (allInt (l.map fun a => D.int (p a))).bind _ = _
    rw [allIntM p l]
    rfl
theorem allStrM {α : Type} (p : α → List Nat) : ∀ l : List α, allStr (l.map fun a => D.str (p a)) = .ok (l.map p)
  | [] => rfl
  | a :: l => by
    show (allStr (l.map fun a => D.str (p a))).bind _ = _
    rw [allStrM p l]
    rfl
theorem blt_all {α : Type} (p : α → Bool) (l : List α) : bltD .all [.list (l.map fun a => D.bool (p a))] = .ok (.bool (l.all p)) := by
  show (allBool _).bind _ = _
  rw [allBool_map]
  show R.ok (D.bool ((l.map p).all id)) = _
  rw [List.all_map]
  rfl
theorem blt_any {α : Type} (p : α → Bool) (l : List α) : bltD .any [.list (l.map fun a => D.bool (p a))] = .ok (.bool (l.any p)) := by
  show (allBool _).bind _ = _
  rw [allBool_map]
  show R.ok (D.bool ((l.map p).any id)) = _
  rw [List.any_map]
  rfl
theorem runDf_eq {F : Fx} {df : Df} {ds : List D} (h : ds.length = df.pars) : runDf F df ds = (execs F df.body (ds.map .dat ++ List.replicate df.slots .un)).res := by
  unfold runDf
  rw [h, beq_self_eq_true]
end Ev
namespace Ev
theorem filtR_congr {f : D → R (Option D)} {l l' : List D} (h : l = l') : filtR f l = filtR f l' := by rw [h]
theorem flatR_congr {f : D → R (List D)} {l l' : List D} (h : l = l') : flatR f l = flatR f l' := by rw [h]
theorem forO_congr {t : List Nat} {b : List Sl → O} {l l' : List D} {ρ ρ' : List Sl} (h : l = l') (h2 : ρ = ρ') : forO t b l ρ = forO t b l' ρ' := by rw [h, h2]
theorem whileO_congr {c : List Sl → R Bool} {b : List Sl → O} {n : Nat} {ρ ρ' : List Sl} (h2 : ρ = ρ') : whileO c b n ρ = whileO c b n ρ' := by rw [h2]
theorem execs_next {F : Fx} {s : S} {r : List S} {ρ ρ' : List Sl} (h : exec F s ρ = .next ρ') : execs F (s :: r) ρ = execs F r ρ' := by rw [execs, h, then_next]
theorem execs_ret {F : Fx} {s : S} {r : List S} {ρ : List Sl} {d : D} (h : exec F s ρ = .ret d) : execs F (s :: r) ρ = .ret d := by rw [execs, h, then_ret]
theorem execs_err {F : Fx} {s : S} {r : List S} {ρ : List Sl} {c : Nat} (h : exec F s ρ = .err c) : execs F (s :: r) ρ = .err c := by rw [execs, h, then_err]
theorem exec_if_true {F : Fx} {c : X} {a b : List S} {ρ : List Sl} (h : (ev F (thaw (fun i => c.has i) 0 ρ) c).bind truth = .ok true) : exec F (.if_ c a b) ρ = execs F a ρ := by
  rw [exec, h, R.to_ok]
theorem exec_if_false {F : Fx} {c : X} {a b : List S} {ρ : List Sl} (h : (ev F (thaw (fun i => c.has i) 0 ρ) c).bind truth = .ok false) : exec F (.if_ c a b) ρ = execs F b ρ := by
  rw [exec, h, R.to_ok]
theorem evIt_rng {F : Fx} {ρ : List Sl} {a : X} {n : Nat} (h : ev F ρ a = .ok (.int (n : Nat))) (hn : n ≤ 1000000) : evIt F ρ (.rng a) = .ok ((List.range n).map fun k => D.int (k : Nat)) := by
  rw [evIt, h, R.bnd_ok, asInt, R.bnd_ok, range_ev]
  have h1 : decide ((n : Int) ≤ 1000000) = true := decide_eq_true (by omega)
  have h2 : smallIx (n : Int) = true := decide_eq_true ⟨by omega, by omega⟩
  rw [h1, h2]
  rfl
theorem exec_for {F : Fx} {t : List Nat} {it : It} {b : List S} {ρ : List Sl} {ds : List D} (h : evIt F (thaw (fun i => it.has i) 0 ρ) it = .ok ds) : exec F (.for_ t it b) ρ = forO t (execs F b) ds (thaw (fun i => it.has i) 0 ρ) := by
  rw [exec, h, R.to_ok]
/-- it goes on, in such a state -/
def NextP (P : List Sl → Prop) (o : O) : Prop := ∃ ρ', o = .next ρ' ∧ P ρ'
theorem NextP.mk {P : List Sl → Prop} {o : O} {ρ' : List Sl} (h : o = .next ρ') (p : P ρ') : NextP P o := ⟨ρ', h, p⟩
theorem execs_for {α : Type} {F : Fx} {t : List Nat} {it : It} {b r : List S} {ρ : List Sl} {l : List α} {e : α → D} {Q : O → Prop} (I : List α → List Sl → Prop) (hit : evIt F (thaw (fun i => it.has i) 0 ρ) it = .ok (l.map e)) (h0 : I [] (thaw (fun i => it.has i) 0 ρ))
    (step : ∀ (pre post : List α) (a : α) (ρ : List Sl), l = pre ++ a :: post → I pre ρ → NextP (I (pre ++ [a])) ((unpack t (e a) ρ).then (execs F b))) (k : ∀ ρ', I l ρ' → Q (execs F r ρ')) : Q (execs F (.for_ t it b :: r) ρ) := by
  obtain ⟨ρ', e1, i1⟩ := forO_map (e := e) I h0 step
  rw [execs, exec_for hit, e1, then_next]
  exact k ρ' i1
theorem for_next {α : Type} {F : Fx} {t : List Nat} {it : It} {b r : List S} {ρ : List Sl} {l : List α} {e : α → D} {P : List Sl → Prop} (I : List α → List Sl → Prop) (hit : evIt F (thaw (fun i => it.has i) 0 ρ) it = .ok (l.map e)) (h0 : I [] (thaw (fun i => it.has i) 0 ρ))
    (step : ∀ (pre post : List α) (a : α) (ρ : List Sl), l = pre ++ a :: post → I pre ρ → NextP (I (pre ++ [a])) ((unpack t (e a) ρ).then (execs F b))) (k : ∀ ρ', I l ρ' → NextP P (execs F r ρ')) : NextP P (execs F (.for_ t it b :: r) ρ) := execs_for I hit h0 step k
theorem for_res {α : Type} {F : Fx} {t : List Nat} {it : It} {b r : List S} {ρ : List Sl} {l : List α} {e : α → D} {res : R D} (I : List α → List Sl → Prop) (hit : evIt F (thaw (fun i => it.has i) 0 ρ) it = .ok (l.map e)) (h0 : I [] (thaw (fun i => it.has i) 0 ρ))
    (step : ∀ (pre post : List α) (a : α) (ρ : List Sl), l = pre ++ a :: post → I pre ρ → NextP (I (pre ++ [a])) ((unpack t (e a) ρ).then (execs F b))) (k : ∀ ρ', I l ρ' → (execs F r ρ').res = res) : (execs F (.for_ t it b :: r) ρ).res = res := execs_for (Q := fun o => o.res = res) I hit h0 step k
theorem unpack_1 {i : Nat} {d : D} {ρ : List Sl} : unpack [i] d ρ = .next (ρ.set i (.dat d)) := by unfold unpack; rfl
theorem unpack_2 {i j : Nat} {a b : D} {ρ : List Sl} : unpack [i, j] (.tuple [a, b]) ρ = .next ((ρ.set i (.dat a)).set j (.dat b)) := rfl
theorem unpack_3 {i j k : Nat} {a b c : D} {ρ : List Sl} : unpack [i, j, k] (.tuple [a, b, c]) ρ = .next (((ρ.set i (.dat a)).set j (.dat b)).set k (.dat c)) := rfl
theorem fits_ok {n : Nat} (h : n ≤ 16777216) : fits n = true := Nat.ble_eq_true_of_le h
theorem rep_0 {α : Type} (a : α) : List.replicate 0 a = [] := rfl
theorem rep_1 {α : Type} (a : α) : List.replicate 1 a = [a] := rfl
theorem rep_2 {α : Type} (a : α) : List.replicate 2 a = [a, a] := rfl
theorem rep_3 {α : Type} (a : α) : List.replicate 3 a = [a, a, a] := rfl
theorem rep_4 {α : Type} (a : α) : List.replicate 4 a = [a, a, a, a] := rfl
theorem rep_5 {α : Type} (a : α) : List.replicate 5 a = [a, a, a, a, a] := rfl
theorem rep_6 {α : Type} (a : α) : List.replicate 6 a = [a, a, a, a, a, a] := rfl
theorem rep_7 {α : Type} (a : α) : List.replicate 7 a = [a, a, a, a, a, a, a] := rfl
theorem rep_8 {α : Type} (a : α) : List.replicate 8 a = [a, a, a, a, a, a, a, a] := rfl
theorem rep_9 {α : Type} (a : α) : List.replicate 9 a = [a, a, a, a, a, a, a, a, a] := rfl
theorem rep_10 {α : Type} (a : α) : List.replicate 10 a = [a, a, a, a, a, a, a, a, a, a] := rfl
theorem rep_11 {α : Type} (a : α) : List.replicate 11 a = [a, a, a, a, a, a, a, a, a, a, a] := rfl
theorem rep_12 {α : Type} (a : α) : List.replicate 12 a = [a, a, a, a, a, a, a, a, a, a, a, a] := rfl
theorem rep_13 {α : Type} (a : α) : List.replicate 13 a = [a, a, a, a, a, a, a, a, a, a, a, a, a] := rfl
theorem rep_14 {α : Type} (a : α) : List.replicate 14 a = [a, a, a, a, a, a, a, a, a, a, a, a, a, a] := rfl
theorem items_list {l : List D} : items (.list l) = .ok l := rfl
theorem items_tuple {l : List D} : items (.tuple l) = .ok l := rfl
theorem items_str {l : List Nat} : items (.str l) = .ok (l.map fun c => .str [c]) := rfl
theorem seqItems_list {l : List D} : seqItems (.list l) = .ok l := rfl
theorem seqItems_tuple {l : List D} : seqItems (.tuple l) = .ok l := rfl
theorem seqItems_str {l : List Nat} : seqItems (.str l) = .ok (l.map fun c => .str [c]) := rfl
theorem zipD_map {α β : Type} {e : α → D} {f : β → D} : ∀ (l : List α) (m : List β), zipD (l.map e) (m.map f) = (l.zip m).map fun p => .tuple [e p.1, f p.2]
  | [], _ => by cases ‹List β› <;> rfl
  | _ :: _, [] => rfl
  | a :: l, b :: m => by
    show D.tuple [e a, f b] :: zipD (l.map e) (m.map f) = _
    rw [zipD_map l m]
    rfl
theorem enumD_map {α : Type} {e : α → D} : ∀ (l : List α) (n : Nat), enumD n (l.map e) = (l.zipIdx n).map fun p => .tuple [.int (p.2 : Nat), e p.1]
  | [], _ => rfl
  | a :: l, n => by
    show D.tuple [.int n, e a] :: enumD (n + 1) (l.map e) = _
    rw [enumD_map l (n + 1), List.zipIdx_cons]
    rfl
theorem cut_from {α : Type} (l : List α) (n : Nat) : cut l (some (n : Int)) none = l.drop n := by
  show (l.drop (clip l.length n)).take (l.length - clip l.length n) = _
  unfold clip
  rw [if_pos (Int.natCast_nonneg n)]
  show (l.drop (min (Int.toNat n) l.length)).take (l.length - min (Int.toNat n) l.length) = _
  rw [Int.toNat_natCast]
  rcases Nat.le_total n l.length with h | h
  · rw [Nat.min_eq_left h, List.take_of_length_le (by simp)]
  · rw [Nat.min_eq_right h, List.drop_eq_nil_of_le h, List.drop_eq_nil_of_le (Nat.le_refl _), List.take_nil]
theorem cut_to {α : Type} (l : List α) (n : Nat) : cut l none (some (n : Int)) = l.take n := by
  show (l.drop 0).take (clip l.length n - 0) = _
  unfold clip
  rw [if_pos (Int.natCast_nonneg n)]
  show (l.drop 0).take (min (Int.toNat n) l.length - 0) = _
  rw [Int.toNat_natCast, List.drop_zero, Nat.sub_zero]
  rcases Nat.le_total n l.length with h | h
  · rw [Nat.min_eq_left h]
  · rw [Nat.min_eq_right h, List.take_of_length_le (Nat.le_refl _), List.take_of_length_le h]
theorem slice_list {l : List D} {a b : Option Int} : sliceD (.list l) a b = .ok (.list (cut l a b)) := rfl
theorem slice_tuple {l : List D} {a b : Option Int} : sliceD (.tuple l) a b = .ok (.tuple (cut l a b)) := rfl
theorem slice_str {l : List Nat} {a b : Option Int} : sliceD (.str l) a b = .ok (.str (cut l a b)) := rfl
theorem asInt_int {i : Int} : asInt (.int i) = .ok i := rfl
theorem bindT_1 {d : D} : bindT 1 d = .ok [.dat d] := by unfold bindT; rfl
theorem bindT_2 {a b : D} : bindT 2 (.tuple [a, b]) = .ok [.dat a, .dat b] := rfl
theorem bindT_3 {a b c : D} : bindT 3 (.tuple [a, b, c]) = .ok [.dat a, .dat b, .dat c] := rfl
theorem cut_from1 {α : Type} (l : List α) : cut l (some 1) none = l.drop 1 := cut_from l 1
theorem atI_nat {α : Type} (l : List α) (n : Nat) : atI l (n : Int) = l[n]? := by
  unfold atI
  rw [if_pos (Int.natCast_nonneg n), Int.toNat_natCast]
theorem atI_0 {α : Type} (l : List α) : atI l 0 = l[0]? := atI_nat l 0
theorem atI_1 {α : Type} (l : List α) : atI l 1 = l[1]? := atI_nat l 1
theorem sub_list_n {l : List D} {n : Nat} : subD (.list l) (.int (n : Int)) = ofO l[n]? := by
  show ofO (atI l n) = _
  rw [atI_nat]
theorem sub_tuple_n {l : List D} {n : Nat} : subD (.tuple l) (.int (n : Int)) = ofO l[n]? := by
  show ofO (atI l n) = _
  rw [atI_nat]
theorem sub_str_n {l : List Nat} {n : Nat} : subD (.str l) (.int (n : Int)) = (ofO l[n]?).bind fun c => .ok (.str [c]) := by
  show (ofO (atI l n)).bind _ = _
  rw [atI_nat]
theorem sub_tuple_0 {a : D} {l : List D} : subD (.tuple (a :: l)) (.int 0) = .ok a := rfl
theorem sub_tuple_1 {a b : D} {l : List D} : subD (.tuple (a :: b :: l)) (.int 1) = .ok b := rfl
theorem sub_list_0 {a : D} {l : List D} : subD (.list (a :: l)) (.int 0) = .ok a := rfl
theorem bin_add_int {a b : Int} : binD .add (.int a) (.int b) = .ok (.int (a + b)) := rfl
theorem bin_sub_int {a b : Int} : binD .sub (.int a) (.int b) = .ok (.int (a - b)) := rfl
theorem bin_add_str {a b : List Nat} (h : a.length + b.length ≤ 16777216) : binD .add (.str a) (.str b) = .ok (.str (a ++ b)) := by
  show mkS (a ++ b) = _
  unfold mkS fits
  rw [List.length_append, Nat.ble_eq_true_of_le h]
  rfl
theorem bin_add_list {a b : List D} (h : a.length + b.length ≤ 16777216) : binD .add (.list a) (.list b) = .ok (.list (a ++ b)) := by
  show mkL (a ++ b) = _
  unfold mkL fits
  rw [List.length_append, Nat.ble_eq_true_of_le h]
  rfl
theorem bin_add_tuple {a b : List D} (h : a.length + b.length ≤ 16777216) : binD .add (.tuple a) (.tuple b) = .ok (.tuple (a ++ b)) := by
  show mkT (a ++ b) = _
  unfold mkT fits
  rw [List.length_append, Nat.ble_eq_true_of_le h]
  rfl
theorem joinL_nil : ∀ l : List (List Nat), joinL [] l = l.flatten
  | [] => rfl
  | [x] => by show x = _; simp
  | x :: y :: r => by
    show x ++ [] ++ joinL [] (y :: r) = _
    rw [joinL_nil (y :: r), List.append_nil]
    rfl
theorem sumLenM : ∀ l : List (List Nat), sumLen l = l.flatten.length
  | [] => rfl
  | x :: r => by rw [sumLen, sumLenM r, List.flatten_cons, List.length_append]
/-- "".join of a list or tuple of texts -/
theorem join_nil {l : List (List Nat)} {d : D} (hd : d = .list (l.map .str) ∨ d = .tuple (l.map .str)) (h : l.flatten.length ≤ 16777216) : methD .join (.str []) [d] = .ok (.str l.flatten) := by
  have e : (match d with | .list l => allStr l | .tuple l => allStr l | _ => .stuck) = .ok l := by
    rcases hd with rfl | rfl
    · exact (allStrM id l).trans (by rw [List.map_id])
    · exact (allStrM id l).trans (by rw [List.map_id])
  show (match d with | .list l => allStr l | .tuple l => allStr l | _ => .stuck).bind _ = _
  rw [e, R.bnd_ok, sumLenM]
  unfold fits
  rw [show l.flatten.length + l.length * ([] : List Nat).length = l.flatten.length by simp, Nat.ble_eq_true_of_le h, R.guard_true, joinL_nil]
theorem lenSet_strs {l : List (List Nat)} {d : D} (hd : seqItems d = .ok (l.map .str)) (h : l.length ≤ 1000) : bltD .lenSet [d] = .ok (.int (once l).length) := by
  show (seqItems d).bind _ = _
  rw [hd, R.bnd_ok, List.length_map, Nat.ble_eq_true_of_le h, R.guard_true]
  cases l with
  | nil => rfl
  | cons a l =>
    show ((allStr (.str a :: l.map .str)).bind fun l => R.ok (once l).length).bind _ = _
    rw [show allStr (.str a :: l.map .str) = .ok (a :: l) from (allStrM id (a :: l)).trans (by rw [List.map_id])]
    rfl
theorem sortSet_strs {l : List (List Nat)} {d : D} (hd : seqItems d = .ok (l.map .str)) (h : l.length ≤ 1000) : bltD .sortedSet [d] = .ok (.list ((sortS (once l)).map .str)) := by
  show (seqItems d).bind _ = _
  rw [hd, R.bnd_ok, List.length_map, Nat.ble_eq_true_of_le h, R.guard_true]
  cases l with
  | nil => rfl
  | cons a l =>
    show ((allStr (.str a :: l.map .str)).bind fun l => R.ok ((sortS (once l)).map D.str)).bind _ = _
    rw [show allStr (.str a :: l.map .str) = .ok (a :: l) from (allStrM id (a :: l)).trans (by rw [List.map_id])]
    rfl
theorem lenSet_ints {l : List Int} {d : D} (hd : seqItems d = .ok (l.map .int)) (h : l.length ≤ 1000) : bltD .lenSet [d] = .ok (.int (once l).length) := by
  show (seqItems d).bind _ = _
  rw [hd, R.bnd_ok, List.length_map, Nat.ble_eq_true_of_le h, R.guard_true]
  cases l with
  | nil => rfl
  | cons a l =>
    show ((allInt (.int a :: l.map .int)).bind fun l => R.ok (once l).length).bind _ = _
    rw [show allInt (.int a :: l.map .int) = .ok (a :: l) from (allIntM id (a :: l)).trans (by rw [List.map_id])]
    rfl
end Ev
namespace Ev
theorem after_id {h : Nat → Bool} {ρ : List Sl} {d : D} (e : thaw h 0 ρ = ρ) : after h ρ d = ρ := by
  unfold after
  cases scalar d
  · exact e
  · rfl
theorem evIt_enum {α : Type} {F : Fx} {ρ : List Sl} {a : X} {d : D} {l : List α} {e : α → D} (h : ev F ρ a = .ok d) (hd : seqItems d = .ok (l.map e)) : evIt F ρ (.enum a) = .ok ((l.zipIdx).map fun p => D.tuple [.int (p.2 : Nat), e p.1]) := by
  rw [evIt, h, R.bnd_ok, hd, R.bnd_ok, enumD_map]
theorem evIt_val {α : Type} {F : Fx} {ρ : List Sl} {a : X} {d : D} {l : List α} {e : α → D} (h : ev F ρ a = .ok d) (hd : items d = .ok (l.map e)) : evIt F ρ (.val a) = .ok (l.map e) := by
  rw [evIt, h, R.bnd_ok, hd]
theorem evIt_zip {α β : Type} {F : Fx} {ρ : List Sl} {a b : X} {d d' : D} {l : List α} {m : List β} {e : α → D} {f : β → D} (h : ev F ρ a = .ok d) (h' : ev F ρ b = .ok d') (hd : seqItems d = .ok (l.map e)) (hd' : seqItems d' = .ok (m.map f)) : evIt F ρ (.zip a b) = .ok ((l.zip m).map fun p => D.tuple [e p.1, f p.2]) := by
  rw [evIt, h, R.bnd_ok, h', R.bnd_ok, hd, R.bnd_ok, hd', R.bnd_ok, zipD_map]
theorem eqL_refl {n : Nat} (ih : ∀ d, shp n d = true → eqB d d = true) : ∀ l : List D, l.all (shp n) = true → eqL l l = true
  | [], _ => by rw [eqL]
  | d :: l, h => by
    rw [List.all_cons, Bool.and_eq_true] at h
    rw [eqL, ih d h.1, eqL_refl ih l h.2]
    rfl
theorem eqB_refl : ∀ (n : Nat) (d : D), shp n d = true → eqB d d = true
  | n, .none, _ => by rw [eqB]
  | n, .bool b, _ => by rw [eqB]; exact beq_self_eq_true b
  | n, .int i, _ => by rw [eqB]; exact beq_self_eq_true i
  | n, .str l, _ => by rw [eqB]; exact beq_self_eq_true l
  | 0, .list l, h => by rw [shp] at h <;> first | cases h | (intros; simp)
  | n + 1, .list l, h => by rw [eqB]; rw [shp] at h; exact eqL_refl (eqB_refl n) l h
  | 0, .tuple l, h => by rw [shp] at h <;> first | cases h | (intros; simp)
  | n + 1, .tuple l, h => by rw [eqB]; rw [shp] at h; exact eqL_refl (eqB_refl n) l h
  | n, .dict _, h => by cases n <;> (rw [shp] at h <;> first | cases h | (intros; simp))
  | n, .fn _, h => by cases n <;> (rw [shp] at h <;> first | cases h | (intros; simp))
  | n, .exc _, h => by cases n <;> (rw [shp] at h <;> first | cases h | (intros; simp))
theorem cmp_ne_self {d : D} (h : shp 60 d = true) : cmpD .ne d d = .ok false := by
  rw [cmp_ne_ok (eqD_ok h h), eqB_refl 60 d h]
  rfl
theorem cmp_eq_self {d : D} (h : shp 60 d = true) : cmpD .eq d d = .ok true := by
  rw [cmp_eq_ok (eqD_ok h h), eqB_refl 60 d h]
theorem shp_strs (l : List (List Nat)) : shp 60 (.list (l.map D.str)) = true := by
  rw [shp_list]
  exact shp_all (n := 59) (e := D.str) (fun _ => shp_str) l
theorem shp_signs (l : List Nat) : shp 60 (.list (l.map fun c => D.str [c])) = true := by
  rw [shp_list]
  exact shp_all (n := 59) (e := fun c => D.str [c]) (fun _ => shp_str) l
theorem shp_nats (l : List Nat) : shp 60 (.list (l.map fun n => D.int (n : Nat))) = true := by
  rw [shp_list]
  exact shp_all (n := 59) (e := fun n : Nat => D.int (n : Nat)) (fun _ => shp_int) l
end Ev
namespace Lc
open Ev
abbrev W := List Nat
def SIGNS : W := [48, 49, 50, 51, 52, 53, 54, 55, 56, 57, 97, 98, 99, 100, 101, 102, 103, 104, 105, 106, 107, 108, 109, 110, 111, 112, 113, 114, 115, 116, 117, 118, 119, 120, 121, 122]
def okSign (c : Nat) : Bool := SIGNS.contains c
def okStr (l : W) (a b : Int) : Bool := decide (a ≤ (l.length : Int)) && (decide ((l.length : Int) ≤ b) && l.all okSign)
def risesL (l : List W) : Bool := (l.zip (l.drop 1)).all fun p => decide (p.1 < p.2)
def sg (l : W) : List W := l.map fun c => [c]
def okCube (l : W) : Bool := okStr l 1 6 && risesL (sg l)
abbrev Tw := List (Nat × Nat)
def pw (p : Nat × Nat) : W := [p.1, p.2]
/-- data -/
def dTs (l : List W) : D := .tuple (l.map .str)
def dTw (t : Tw) : D := .tuple (t.map fun p => .str (pw p))
def dBox (c : List W) (t : Tw) : D := .tuple [dTs c, dTw t]
def twinOf : Tw → Nat → Nat
  | [], s => s
  | p :: r, s => if p.1 = s then p.2 else if p.2 = s then p.1 else twinOf r s
def shows (c : W) (t : Tw) (s : Nat) : Bool := c.contains s || c.contains (twinOf t s)
def findCubes (cs : List W) (t : Tw) (s : Nat) : List Nat := ((cs.zipIdx).filter fun p => shows p.1 t s).map (·.2)
/-- twins as they must be -/
structure OkT (t : Tw) : Prop where
  lt : ∀ p ∈ t, p.1 < p.2
  sg : ∀ p ∈ t, okSign p.1 = true ∧ okSign p.2 = true
  nd : (t.flatMap pw).Nodup
  up : risesL (t.map pw) = true
  few : t.length ≤ 4
structure OkC (c : W) : Prop where
  pos : 1 ≤ c.length
  few : c.length ≤ 6
  sg : ∀ s ∈ c, okSign s = true
  up : c.Pairwise (· < ·)
structure OkB (cs : List W) (t : Tw) : Prop where
  pos : 1 ≤ cs.length
  few : cs.length ≤ 6
  cu : ∀ c ∈ cs, OkC c
  tw : OkT t
theorem risesL_of : ∀ {l : List W}, l.Pairwise (· < ·) → risesL l = true
  | [], _ => rfl
  | [a], _ => rfl
  | a :: b :: r, h => by
    have h' := List.pairwise_cons.mp h
    have ih := risesL_of h'.2
    show (decide (a < b) && risesL (b :: r)) = true
    rw [ih, decide_eq_true (h'.1 b List.mem_cons_self)]
    rfl
theorem sg_lt {a b : Nat} : ([a] : W) < [b] ↔ a < b := by
  rw [List.cons_lt_cons_iff]
  exact ⟨fun h => h.elim id fun h => absurd h.2 (List.lt_irrefl _), .inl⟩
theorem sg_up {c : W} (h : c.Pairwise (· < ·)) : risesL (sg c) = true := by
  refine risesL_of ?_
  unfold sg
  rw [List.pairwise_map]
  exact h.imp fun h => sg_lt.mpr h
theorem OkC.cube {c : W} (h : OkC c) : okCube c = true := by
  unfold okCube okStr
  have h1 : decide ((1 : Int) ≤ (c.length : Int)) = true := decide_eq_true (by have := h.pos; omega)
  have h2 : decide ((c.length : Int) ≤ 6) = true := decide_eq_true (by have := h.few; omega)
  have h3 : c.all okSign = true := List.all_eq_true.mpr h.sg
  rw [h1, h2, h3, sg_up h.up]
  rfl
/-- once, sorted: no item is lost -/
theorem mem_once {α : Type} [BEq α] [LawfulBEq α] {x : α} : ∀ {l : List α}, x ∈ once l ↔ x ∈ l
  | [] => Iff.rfl
  | a :: r => by
    rw [once]
    split
    · rename_i h
      rw [mem_once]
      refine ⟨List.mem_cons_of_mem _, fun h' => ?_⟩
      rcases List.mem_cons.mp h' with e | e
      · rw [e]; exact List.contains_iff_mem.mp h
      · exact e
    · rw [List.mem_cons, List.mem_cons, mem_once]
theorem nodup_once {α : Type} [BEq α] [LawfulBEq α] : ∀ {l : List α}, (once l).Nodup
  | [] => List.nodup_nil
  | a :: r => by
    rw [once]
    split
    · exact nodup_once
    · rename_i h
      refine List.nodup_cons.mpr ⟨fun hm => h (List.contains_iff_mem.mpr (mem_once.mp hm)), nodup_once⟩
theorem onceM_nodup {α : Type} [BEq α] [LawfulBEq α] : ∀ {l : List α}, l.Nodup → once l = l
  | [], _ => rfl
  | a :: r, h => by
    have h' := List.nodup_cons.mp h
    rw [once, if_neg (fun z => h'.1 (List.contains_iff_mem.mp z)), onceM_nodup h'.2]
theorem onceM_len {α : Type} [BEq α] [LawfulBEq α] : ∀ {l : List α}, (once l).length ≤ l.length
  | [] => Nat.le_refl _
  | a :: r => by
    rw [once]
    split
    · exact Nat.le_succ_of_le onceM_len
    · exact Nat.succ_le_succ onceM_len
theorem mem_insS {x y : W} : ∀ {l : List W}, y ∈ insS x l ↔ y = x ∨ y ∈ l
  | [] => by simp [insS]
  | z :: r => by
    rw [insS]
    split
    · rw [List.mem_cons, mem_insS, List.mem_cons]
      exact ⟨fun h => h.elim (fun e => .inr (.inl e)) (fun h => h.imp id .inr), fun h => h.elim (fun e => .inr (.inl e)) (fun h => h.imp id .inr)⟩
    · rw [List.mem_cons]
theorem mem_sortS {x : W} : ∀ {l : List W}, x ∈ sortS l ↔ x ∈ l
  | [] => Iff.rfl
  | y :: r => by rw [sortS, mem_insS, mem_sortS, List.mem_cons]
theorem insS_len {x : W} : ∀ {l : List W}, (insS x l).length = l.length + 1
  | [] => rfl
  | z :: r => by
    rw [insS]
    split
    · rw [List.length_cons, insS_len]; rfl
    · rfl
theorem sortS_len : ∀ {l : List W}, (sortS l).length = l.length
  | [] => rfl
  | y :: r => by rw [sortS, insS_len, sortS_len]; rfl
theorem ltW_trans {a b c : W} (h : a < b) (h' : b < c) : a < c := List.lt_trans h h'
theorem ltW_tri {a b : W} (h : ¬ a < b) (hn : a ≠ b) : b < a := by
  rcases List.le_iff_lt_or_eq.mp (List.not_lt.mp h) with r | r
  · exact r
  · exact absurd r.symm hn
theorem insS_up {x : W} : ∀ {l : List W}, l.Pairwise (· < ·) → x ∉ l → (insS x l).Pairwise (· < ·)
  | [], _, _ => by simp [insS]
  | z :: r, h, hx => by
    have h' := List.pairwise_cons.mp h
    rw [insS]
    split
    · rename_i hz
      refine List.pairwise_cons.mpr ⟨fun y hy => ?_, insS_up h'.2 fun hm => hx (List.mem_cons_of_mem _ hm)⟩
      rcases mem_insS.mp hy with e | e
      · rw [e]; exact hz
      · exact h'.1 y e
    · rename_i hz
      have zx : x < z := ltW_tri hz fun e => hx (by rw [e]; exact List.mem_cons_self)
      refine List.pairwise_cons.mpr ⟨fun y hy => ?_, h⟩
      rcases List.mem_cons.mp hy with e | e
      · rw [e]; exact zx
      · exact ltW_trans zx (h'.1 y e)
theorem sortS_up : ∀ {l : List W}, l.Nodup → (sortS l).Pairwise (· < ·)
  | [], _ => List.Pairwise.nil
  | y :: r, h => by
    have h' := List.nodup_cons.mp h
    rw [sortS]
    exact insS_up (sortS_up h'.2) fun hm => h'.1 (mem_sortS.mp hm)
/-- an ascending list is known by its members -/
theorem up_ext : ∀ {l m : List W}, l.Pairwise (· < ·) → m.Pairwise (· < ·) → (∀ x, x ∈ l ↔ x ∈ m) → l = m
  | [], [], _, _, _ => rfl
  | [], b :: m, _, _, h => absurd ((h b).mpr List.mem_cons_self) (by simp)
  | a :: l, [], _, _, h => absurd ((h a).mp List.mem_cons_self) (by simp)
  | a :: l, b :: m, hl, hm, h => by
    have hl' := List.pairwise_cons.mp hl
    have hm' := List.pairwise_cons.mp hm
    have e : a = b := by
      rcases List.mem_cons.mp ((h a).mp List.mem_cons_self) with q | q
      · exact q
      · rcases List.mem_cons.mp ((h b).mpr List.mem_cons_self) with q2 | q2
        · exact q2.symm
        · exact absurd (ltW_trans (hl'.1 b q2) (hm'.1 a q)) (List.lt_irrefl _)
    subst e
    rw [up_ext hl'.2 hm'.2 fun x => ?_]
    constructor
    · intro hx
      rcases List.mem_cons.mp ((h x).mp (List.mem_cons_of_mem _ hx)) with q | q
      · rw [q] at hx; exact absurd (hl'.1 a hx) (List.lt_irrefl _)
      · exact q
    · intro hx
      rcases List.mem_cons.mp ((h x).mpr (List.mem_cons_of_mem _ hx)) with q | q
      · rw [q] at hx; exact absurd (hm'.1 a hx) (List.lt_irrefl _)
      · exact q
end Lc
/-! the defs of lettercubes_k01_boxes -/
namespace K01
open Ev
def d_is_int : Df := ⟨3, 0, [.ret (.and_ (.isi (.var 0) .int) (.and_ (.not_ (.isi (.var 0) .bool)) (.chain .le .le (.var 1) (.var 0) (.var 2))))]⟩
def d_is_sign : Df := ⟨1, 0, [.ret (.and_ (.isi (.var 0) .str) (.and_ (.cmp .eq (.blt .len [(.var 0)]) (.con (.int 1))) (.cmp .in_ (.var 0) (.con (.str [48, 49, 50, 51, 52, 53, 54, 55, 56, 57, 97, 98, 99, 100, 101, 102, 103, 104, 105, 106, 107, 108, 109, 110, 111, 112, 113, 114, 115, 116, 117, 118, 119, 120, 121, 122])))))]⟩
def d_is_string : Df := ⟨3, 0, [.ret (.and_ (.isi (.var 0) .str) (.and_ (.chain .le .le (.var 1) (.blt .len [(.var 0)]) (.var 2)) (.blt .all [(.lc (.cmp .in_ (.var 0) (.con (.str [48, 49, 50, 51, 52, 53, 54, 55, 56, 57, 97, 98, 99, 100, 101, 102, 103, 104, 105, 106, 107, 108, 109, 110, 111, 112, 113, 114, 115, 116, 117, 118, 119, 120, 121, 122]))) (.mk 1 (.val (.var 0)) none))])))]⟩
def d_rises : Df := ⟨1, 0, [.ret (.blt .all [(.lc (.cmp .lt (.var 0) (.var 1)) (.mk 2 (.zip (.var 0) (.slice (.var 0) (some (.con (.int 1))) none)) none))])]⟩
def d_is_cube : Df := ⟨1, 0, [.ret (.and_ (.call 2 [(.var 0), (.con (.int 1)), (.con (.int 6))]) (.call 3 [(.var 0)]))]⟩
def d_are_twins : Df := ⟨1, 1, [.if_ (.or_ (.not_ (.isi (.var 0) .tuple)) (.cmp .gt (.blt .len [(.var 0)]) (.con (.int 4))))
      [.ret (.con (.bool false))]
      [],
    .if_ (.or_ (.not_ (.blt .all [(.lc (.and_ (.call 2 [(.var 0), (.con (.int 2)), (.con (.int 2))]) (.call 3 [(.var 0)])) (.mk 1 (.val (.var 0)) none))])) (.not_ (.call 3 [(.var 0)])))
      [.ret (.con (.bool false))]
      [],
    .asg 1 (.meth .join (.con (.str [])) [(.var 0)]),
    .ret (.cmp .eq (.blt .lenSet [(.var 1)]) (.blt .len [(.var 1)]))]⟩
def d_is_box : Df := ⟨1, 2, [.if_ (.or_ (.not_ (.isi (.var 0) .tuple)) (.cmp .ne (.blt .len [(.var 0)]) (.con (.int 2))))
      [.ret (.con (.bool false))]
      [],
    .asgT [1, 2] (.var 0),
    .if_ (.or_ (.not_ (.isi (.var 1) .tuple)) (.not_ (.chain .le .le (.con (.int 1)) (.blt .len [(.var 1)]) (.con (.int 6)))))
      [.ret (.con (.bool false))]
      [],
    .ret (.and_ (.blt .all [(.lc (.call 4 [(.var 0)]) (.mk 1 (.val (.var 1)) none))]) (.call 5 [(.var 2)]))]⟩
def d_is_word : Df := ⟨1, 0, [.ret (.call 2 [(.var 0), (.con (.int 1)), (.con (.int 6))])]⟩
def d_check_box : Df := ⟨1, 0, [.if_ (.not_ (.call 6 [(.var 0)]))
      [.raise 1]
      []]⟩
def d_twin_of : Df := ⟨2, 1, [.asg 2 (.lc (.var 0) (.mk 1 (.val (.var 0)) (some (.cmp .in_ (.var 2) (.var 0))))),
    .ret (.ite (.cmp .eq (.var 2) (.list [])) (.var 1) (.repl (.sub (.var 2) (.con (.int 0))) (.var 1)))]⟩
def d_does_show : Df := ⟨3, 0, [.ret (.or_ (.cmp .in_ (.var 2) (.var 0)) (.cmp .in_ (.call 9 [(.var 1), (.var 2)]) (.var 0)))]⟩
def d_signs_of : Df := ⟨2, 0, [.expr (.call 8 [(.var 0)]),
    .if_ (.not_ (.call 0 [(.var 1), (.con (.int 0)), (.bin .sub (.blt .len [(.sub (.var 0) (.con (.int 0)))]) (.con (.int 1)))]))
      [.raise 2]
      [],
    .ret (.lc (.var 0) (.mk 1 (.val (.con (.str [48, 49, 50, 51, 52, 53, 54, 55, 56, 57, 97, 98, 99, 100, 101, 102, 103, 104, 105, 106, 107, 108, 109, 110, 111, 112, 113, 114, 115, 116, 117, 118, 119, 120, 121, 122]))) (some (.call 10 [(.sub (.sub (.var 1) (.con (.int 0))) (.var 2)), (.sub (.var 1) (.con (.int 1))), (.var 0)]))))]⟩
def d_find_cubes : Df := ⟨2, 0, [.ret (.lc (.var 0) (.mk 2 (.enum (.sub (.var 0) (.con (.int 0)))) (some (.call 10 [(.var 1), (.sub (.var 2) (.con (.int 1))), (.var 3)]))))]⟩
def d_cubes_with : Df := ⟨2, 0, [.expr (.call 8 [(.var 0)]),
    .if_ (.not_ (.call 1 [(.var 1)]))
      [.raise 3]
      [],
    .ret (.call 12 [(.var 0), (.var 1)])]⟩
def d_shown_signs : Df := ⟨1, 0, [.ret (.lc (.var 0) (.mk 1 (.val (.con (.str [48, 49, 50, 51, 52, 53, 54, 55, 56, 57, 97, 98, 99, 100, 101, 102, 103, 104, 105, 106, 107, 108, 109, 110, 111, 112, 113, 114, 115, 116, 117, 118, 119, 120, 121, 122]))) (some (.cmp .ne (.call 12 [(.var 1), (.var 0)]) (.list [])))))]⟩
def d_all_signs : Df := ⟨1, 0, [.expr (.call 8 [(.var 0)]),
    .ret (.call 14 [(.var 0)])]⟩
def d__law_drawn : Df := ⟨3, 3, [.asg 3 (.bin .mul (.con (.int 7)) (.var 1)),
    .if_ (.cmp .ne (.var 0) (.list []))
      [.asg 3 (.sub (.var 0) (.bin .mod (.var 1) (.blt .len [(.var 0)]))),
      .asg 4 (.bin .fdiv (.var 1) (.blt .len [(.var 0)])),
      .if_ (.and_ (.cmp .ge (.var 3) (.bin .pow (.con (.int 10)) (.con (.int 18)))) (.cmp .lt (.var 4) (.con (.int 60))))
        [.asg 5 (.bin .fdiv (.var 3) (.bin .pow (.con (.int 10)) (.con (.int 18)))),
        .while_ (.and_ (.cmp .gt (.var 5) (.con (.int 0))) (.cmp .gt (.var 4) (.con (.int 0))))
          [.asg 5 (.bin .fdiv (.var 5) (.con (.int 1000000))),
          .asg 4 (.bin .sub (.var 4) (.con (.int 1)))],
        .if_ (.cmp .gt (.var 5) (.con (.int 0)))
          [.ret (.bin .mod (.bin .mod (.var 5) (.con (.int 1000000))) (.var 2))]
          []]
        [],
      .asg 3 (.bin .add (.var 3) (.bin .mul (.con (.int 6553)) (.bin .fdiv (.var 1) (.blt .len [(.var 0)]))))]
      [],
    .asg 3 (.bin .mod (.bin .add (.bin .mul (.bin .mod (.var 3) (.con (.int 2147483563))) (.con (.int 69069))) (.bin .mul (.con (.int 104723)) (.bin .add (.var 1) (.con (.int 1))))) (.con (.int 2147483563))),
    .asg 3 (.bin .mod (.bin .add (.bin .mul (.var 3) (.var 3)) (.bin .fdiv (.var 3) (.con (.int 3)))) (.con (.int 2147483399))),
    .ret (.bin .mod (.bin .fdiv (.bin .mod (.bin .add (.bin .mul (.var 3) (.var 3)) (.bin .fdiv (.var 3) (.con (.int 7)))) (.con (.int 2147483647))) (.con (.int 11))) (.var 2))]⟩
def d__law_box : Df := ⟨3, 5, [.asg 3 (.list []),
    .for_ [4] (.rng (.bin .add (.con (.int 1)) (.call 16 [(.var 0), (.var 1), (.var 2)])))
      [.asg 5 (.list [(.sub (.con (.str [97, 98, 99, 110, 54, 57])) (.call 16 [(.var 0), (.bin .add (.bin .add (.var 1) (.con (.int 2))) (.bin .mul (.con (.int 4)) (.var 4))), (.con (.int 6))]))]),
      .for_ [6] (.rng (.call 16 [(.var 0), (.bin .add (.bin .add (.var 1) (.con (.int 1))) (.bin .mul (.con (.int 4)) (.var 4))), (.con (.int 3))]))
        [.append 5 (.sub (.con (.str [97, 98, 99, 110, 54, 57])) (.call 16 [(.var 0), (.bin .add (.bin .add (.bin .add (.var 1) (.con (.int 3))) (.bin .mul (.con (.int 4)) (.var 4))) (.var 6)), (.con (.int 6))]))],
      .append 3 (.meth .join (.con (.str [])) [(.blt .sortedSet [(.var 5)])])],
    .asg 7 (.sub (.list [(.tuple []), (.tuple []), (.tuple [(.con (.str [54, 57]))]), (.tuple [(.con (.str [54, 57])), (.con (.str [110, 117]))]), (.tuple [(.con (.str [97, 98]))])]) (.call 16 [(.var 0), (.bin .add (.var 1) (.con (.int 30))), (.con (.int 5))])),
    .ret (.tuple [(.blt .tuple [(.var 3)]), (.var 7)])]⟩
def d__law_word : Df := ⟨3, 2, [.asg 3 (.con (.str [])),
    .for_ [4] (.rng (.bin .add (.con (.int 1)) (.call 16 [(.var 0), (.var 1), (.var 2)])))
      [.asg 3 (.bin .add (.var 3) (.sub (.con (.str [97, 97, 98, 99, 110, 54, 57, 117])) (.call 16 [(.var 0), (.bin .add (.bin .add (.var 1) (.con (.int 1))) (.var 4)), (.con (.int 8))])))],
    .ret (.var 3)]⟩
def d__law_does : Df := ⟨3, 1, [.asg 3 (.bin .add (.list [(.var 2)]) (.lc (.repl (.var 0) (.var 3)) (.mk 1 (.val (.var 1)) (some (.cmp .in_ (.var 3) (.var 0)))))),
    .ret (.cmp .ne (.lc (.var 0) (.mk 1 (.val (.var 3)) (some (.cmp .in_ (.var 0) (.var 1))))) (.list []))]⟩
def d__law_badbox : Df := ⟨2, 1, [.asg 2 (.list [(.con .none), (.tuple []), (.tuple [(.tuple []), (.tuple [])]), (.tuple [(.tuple [(.con (.str []))]), (.tuple [])]), (.tuple [(.tuple [(.con (.str [98, 97]))]), (.tuple [])]), (.tuple [(.tuple [(.con (.str [97, 97]))]), (.tuple [])]), (.tuple [(.tuple [(.con (.str [65]))]), (.tuple [])])]),
    .asg 2 (.bin .add (.var 2) (.list [(.tuple [(.list [(.con (.str [97]))]), (.tuple [])]), (.tuple [(.tuple [(.con (.str [97]))]), (.list [])]), (.tuple [(.bin .mul (.tuple [(.con (.str [97]))]) (.con (.int 7))), (.tuple [])])])),
    .asg 2 (.bin .add (.var 2) (.list [(.tuple [(.tuple [(.con (.str [97, 98, 99, 100, 101, 102, 103]))]), (.tuple [])]), (.tuple [(.tuple [(.con (.str [97]))]), (.tuple [(.con (.str [57, 54]))])]), (.tuple [(.tuple [(.con (.str [97]))]), (.tuple [(.con (.str [54, 57])), (.con (.str [54, 97]))])])])),
    .asg 2 (.bin .add (.var 2) (.list [(.tuple [(.tuple [(.con (.str [97]))]), (.tuple [(.con (.str [110, 117])), (.con (.str [54, 57]))])]), (.tuple [(.tuple [(.con (.str [97]))]), (.tuple [(.con (.str [54]))])]), (.list [(.tuple [(.con (.str [97]))]), (.tuple [])])])),
    .ret (.sub (.var 2) (.call 16 [(.var 0), (.var 1), (.con (.int 16))]))]⟩
def d__law_badword : Df := ⟨2, 0, [.ret (.sub (.list [(.con .none), (.con (.str [])), (.con (.str [65])), (.con (.str [97, 98, 99, 100, 101, 102, 103])), (.con (.int 7)), (.tuple [(.con (.str [97]))]), (.con (.str [97, 32, 98]))]) (.call 16 [(.var 0), (.var 1), (.con (.int 7))]))]⟩
def d__law_error : Df := ⟨3, 1, [.try_ [.if_ (.cmp .lt (.var 0) (.con (.int 2)))
        [.expr (.callv (.sub (.list [(.con (.fn 11)), (.con (.fn 13))]) (.var 0)) [(.var 1), (.var 2)])]
        [.expr (.call 15 [(.var 1)])]] 0 3
      [.ret (.meth .index (.list [(.isi (.var 3) (.cls 1)), (.isi (.var 3) (.cls 2)), (.isi (.var 3) (.cls 3))]) [(.con (.bool true))])],
    .ret (.con .none)]⟩
def d_law : Df := ⟨1, 13, [.asgT [1, 2] (.tuple [(.call 17 [(.var 0), (.con (.int 10)), (.con (.int 6))]), (.call 18 [(.var 0), (.con (.int 50)), (.con (.int 6))])]),
    .asgT [3, 4] (.var 1),
    .if_ (.or_ (.cmp .isnot (.call 6 [(.var 1)]) (.con (.bool true))) (.cmp .isnot (.call 7 [(.var 2)]) (.con (.bool true))))
      [.ret (.con (.bool false))]
      [],
    .if_ (.cmp .isnot (.call 6 [(.tuple [(.bin .mul (.tuple [(.con (.str [48, 49, 50, 51, 52, 53]))]) (.con (.int 6))), (.tuple [(.con (.str [48, 49])), (.con (.str [50, 51])), (.con (.str [52, 53])), (.con (.str [54, 55]))])])]) (.con (.bool true)))
      [.ret (.con (.bool false))]
      [],
    .asgT [5, 6] (.tuple [(.con (.str [48, 49, 50, 51, 52, 53, 54, 55, 56, 57, 97, 98, 99, 100, 101, 102, 103, 104, 105, 106, 107, 108, 109, 110, 111, 112, 113, 114, 115, 116, 117, 118, 119, 120, 121, 122])), (.list [])]),
    .for_ [7, 8] (.enum (.var 3))
      [.asg 9 (.lc (.var 0) (.mk 1 (.val (.var 5)) (some (.call 19 [(.var 9), (.var 5), (.var 0)])))),
      .asg 6 (.bin .add (.var 6) (.var 9)),
      .if_ (.cmp .ne (.call 11 [(.var 1), (.var 7)]) (.var 9))
        [.ret (.con (.bool false))]
        []],
    .if_ (.cmp .ne (.call 15 [(.var 1)]) (.blt .sortedSet [(.var 6)]))
      [.ret (.con (.bool false))]
      [],
    .for_ [10] (.val (.con (.str [97, 98, 99, 100, 110, 117, 48, 54, 56, 57])))
      [.if_ (.cmp .ne (.call 13 [(.var 1), (.var 10)]) (.lc (.var 0) (.mk 2 (.enum (.var 3)) (some (.call 19 [(.var 1), (.var 6), (.var 12)])))))
        [.ret (.con (.bool false))]
        []],
    .asgT [11, 12] (.tuple [(.call 20 [(.var 0), (.con (.int 1))]), (.call 21 [(.var 0), (.con (.int 2))])]),
    .asg 7 (.sub (.list [(.con .none), (.neg (.con (.int 1))), (.blt .len [(.var 3)]), (.con (.bool true)), (.con (.str [48]))]) (.call 16 [(.var 0), (.con (.int 3)), (.con (.int 5))])),
    .asg 10 (.sub (.list [(.con .none), (.con (.str [])), (.con (.str [97, 98])), (.con (.str [65])), (.con (.int 7)), (.con (.str [46]))]) (.call 16 [(.var 0), (.con (.int 4)), (.con (.int 6))])),
    .if_ (.or_ (.call 6 [(.var 11)]) (.or_ (.call 7 [(.var 12)]) (.call 6 [(.tuple [(.var 3), (.var 4), (.tuple [])])])))
      [.ret (.con (.bool false))]
      [],
    .asg 13 (.list [(.call 22 [(.con (.int 0)), (.var 11), (.var 7)]), (.call 22 [(.con (.int 1)), (.var 11), (.var 10)]), (.call 22 [(.con (.int 2)), (.var 11), (.con (.int 0))])]),
    .asg 13 (.bin .add (.var 13) (.list [(.call 22 [(.con (.int 0)), (.var 1), (.var 7)]), (.call 22 [(.con (.int 1)), (.var 1), (.var 10)])])),
    .ret (.cmp .eq (.var 13) (.list [(.con (.int 0)), (.con (.int 0)), (.con (.int 0)), (.con (.int 1)), (.con (.int 2))]))]⟩
abbrev f_is_int : Nat := 0
abbrev f_is_sign : Nat := 1
abbrev f_is_string : Nat := 2
abbrev f_rises : Nat := 3
abbrev f_is_cube : Nat := 4
abbrev f_are_twins : Nat := 5
abbrev f_is_box : Nat := 6
abbrev f_is_word : Nat := 7
abbrev f_check_box : Nat := 8
abbrev f_twin_of : Nat := 9
abbrev f_does_show : Nat := 10
abbrev f_signs_of : Nat := 11
abbrev f_find_cubes : Nat := 12
abbrev f_cubes_with : Nat := 13
abbrev f_shown_signs : Nat := 14
abbrev f_all_signs : Nat := 15
abbrev f__law_drawn : Nat := 16
abbrev f__law_box : Nat := 17
abbrev f__law_word : Nat := 18
abbrev f__law_does : Nat := 19
abbrev f__law_badbox : Nat := 20
abbrev f__law_badword : Nat := 21
abbrev f__law_error : Nat := 22
abbrev f_law : Nat := 23
def subs : List (List Nat) := [[0], [0, 1], [0, 2], [0, 3]]
def prog : Pg := ⟨[d_is_int, d_is_sign, d_is_string, d_rises, d_is_cube, d_are_twins, d_is_box, d_is_word, d_check_box, d_twin_of, d_does_show, d_signs_of, d_find_cubes, d_cubes_with, d_shown_signs, d_all_signs, d__law_drawn, d__law_box, d__law_word, d__law_does, d__law_badbox, d__law_badword, d__law_error, d_law], fun a b => ((subs[a]?).getD []).contains b, 4⟩
end K01

namespace K01
open PySem PySem.Spec PyProof.Rows L2 Ev
def topS (i : Nat) : Stmt := PySem.Challenge.pw_lettercubes_k01_boxes.main.body.getD i (.Pass ⟨0, 0, 0, 0⟩)
def t_is_int : Tx := ⟨"is_int", topS 11, ["value", "least", "most"], ["value", "least", "most"]⟩
def t_is_sign : Tx := ⟨"is_sign", topS 12, ["value"], ["value"]⟩
def t_is_string : Tx := ⟨"is_string", topS 13, ["value", "least", "most"], ["value", "least", "most"]⟩
def t_rises : Tx := ⟨"rises", topS 14, ["some"], ["some"]⟩
def t_is_cube : Tx := ⟨"is_cube", topS 15, ["value"], ["value"]⟩
def t_are_twins : Tx := ⟨"are_twins", topS 16, ["value", "signs"], ["value"]⟩
def t_is_box : Tx := ⟨"is_box", topS 17, ["candidate", "cubes", "twins"], ["candidate"]⟩
def t_is_word : Tx := ⟨"is_word", topS 18, ["candidate"], ["candidate"]⟩
def t_check_box : Tx := ⟨"check_box", topS 19, ["value"], ["value"]⟩
def t_twin_of : Tx := ⟨"twin_of", topS 20, ["twins", "sign", "found"], ["twins", "sign"]⟩
def t_does_show : Tx := ⟨"does_show", topS 21, ["cube", "twins", "sign"], ["cube", "twins", "sign"]⟩
def t_signs_of : Tx := ⟨"signs_of", topS 22, ["box", "number"], ["box", "number"]⟩
def t_find_cubes : Tx := ⟨"find_cubes", topS 23, ["box", "sign"], ["box", "sign"]⟩
def t_cubes_with : Tx := ⟨"cubes_with", topS 24, ["box", "sign"], ["box", "sign"]⟩
def t_shown_signs : Tx := ⟨"shown_signs", topS 25, ["box"], ["box"]⟩
def t_all_signs : Tx := ⟨"all_signs", topS 26, ["box"], ["box"]⟩
def t__law_drawn : Tx := ⟨"_law_drawn", topS 28, ["script", "k", "many", "cell", "turn", "rest"], ["script", "k", "many"]⟩
def t__law_box : Tx := ⟨"_law_box", topS 29, ["script", "at", "most", "cubes", "k", "signs", "n", "twins"], ["script", "at", "most"]⟩
def t__law_word : Tx := ⟨"_law_word", topS 30, ["script", "at", "most", "found", "k"], ["script", "at", "most"]⟩
def t__law_does : Tx := ⟨"_law_does", topS 31, ["cube", "twins", "sign", "known"], ["cube", "twins", "sign"]⟩
def t__law_badbox : Tx := ⟨"_law_badbox", topS 32, ["script", "at", "bad"], ["script", "at"]⟩
def t__law_badword : Tx := ⟨"_law_badword", topS 33, ["script", "at"], ["script", "at"]⟩
def t__law_error : Tx := ⟨"_law_error", topS 34, ["way", "one", "two", "e"], ["way", "one", "two"]⟩
def t_law : Tx := ⟨"law", topS 35, ["script", "box", "word", "cubes", "twins", "whole", "held", "number", "cube", "due", "sign", "odd", "bad", "told"], ["script"]⟩
def txs : List Tx := [t_is_int, t_is_sign, t_is_string, t_rises, t_is_cube, t_are_twins, t_is_box, t_is_word, t_check_box, t_twin_of, t_does_show, t_signs_of, t_find_cubes, t_cubes_with, t_shown_signs, t_all_signs, t__law_drawn, t__law_box, t__law_word, t__law_does, t__law_badbox, t__law_badword, t__law_error, t_law]
def cls : List Str := ["CubeError", "InvalidBox", "InvalidCube", "InvalidSign"]
def G : List (Str × Gv) := [(("is_int" : Str), Gv.fn 0), (("is_sign" : Str), Gv.fn 1), (("is_string" : Str), Gv.fn 2), (("rises" : Str), Gv.fn 3), (("is_cube" : Str), Gv.fn 4), (("are_twins" : Str), Gv.fn 5), (("is_box" : Str), Gv.fn 6), (("is_word" : Str), Gv.fn 7), (("check_box" : Str), Gv.fn 8), (("twin_of" : Str), Gv.fn 9), (("does_show" : Str), Gv.fn 10), (("signs_of" : Str), Gv.fn 11), (("find_cubes" : Str), Gv.fn 12), (("cubes_with" : Str), Gv.fn 13), (("shown_signs" : Str), Gv.fn 14), (("all_signs" : Str), Gv.fn 15), (("_law_drawn" : Str), Gv.fn 16), (("_law_box" : Str), Gv.fn 17), (("_law_word" : Str), Gv.fn 18), (("_law_does" : Str), Gv.fn 19), (("_law_badbox" : Str), Gv.fn 20), (("_law_badword" : Str), Gv.fn 21), (("_law_error" : Str), Gv.fn 22), (("law" : Str), Gv.fn 23), (("CubeError" : Str), Gv.cls 0), (("InvalidBox" : Str), Gv.cls 1), (("InvalidCube" : Str), Gv.cls 2), (("InvalidSign" : Str), Gv.cls 3), (("SIGNS" : Str), Gv.str [48, 49, 50, 51, 52, 53, 54, 55, 56, 57, 97, 98, 99, 100, 101, 102, 103, 104, 105, 106, 107, 108, 109, 110, 111, 112, 113, 114, 115, 116, 117, 118, 119, 120, 121, 122]), (("MAX_SIDES" : Str), Gv.int 6), (("MAX_CUBES" : Str), Gv.int 6), (("MAX_TWINS" : Str), Gv.int 4), (("MAX_WORD" : Str), Gv.int 6), (("all" : Str), Gv.blt), (("bool" : Str), Gv.blt), (("enumerate" : Str), Gv.blt), (("int" : Str), Gv.blt), (("isinstance" : Str), Gv.blt), (("len" : Str), Gv.blt), (("range" : Str), Gv.blt), (("set" : Str), Gv.blt), (("sorted" : Str), Gv.blt), (("str" : Str), Gv.blt), (("tuple" : Str), Gv.blt), (("zip" : Str), Gv.blt)]
theorem ck_is_int : ckDf G t_is_int d_is_int = true := by decide +kernel
theorem ck_is_sign : ckDf G t_is_sign d_is_sign = true := by decide +kernel
theorem ck_is_string : ckDf G t_is_string d_is_string = true := by decide +kernel
theorem ck_rises : ckDf G t_rises d_rises = true := by decide +kernel
theorem ck_is_cube : ckDf G t_is_cube d_is_cube = true := by decide +kernel
theorem ck_are_twins : ckDf G t_are_twins d_are_twins = true := by decide +kernel
theorem ck_is_box : ckDf G t_is_box d_is_box = true := by decide +kernel
theorem ck_is_word : ckDf G t_is_word d_is_word = true := by decide +kernel
theorem ck_check_box : ckDf G t_check_box d_check_box = true := by decide +kernel
theorem ck_twin_of : ckDf G t_twin_of d_twin_of = true := by decide +kernel
theorem ck_does_show : ckDf G t_does_show d_does_show = true := by decide +kernel
theorem ck_signs_of : ckDf G t_signs_of d_signs_of = true := by decide +kernel
theorem ck_find_cubes : ckDf G t_find_cubes d_find_cubes = true := by decide +kernel
theorem ck_cubes_with : ckDf G t_cubes_with d_cubes_with = true := by decide +kernel
theorem ck_shown_signs : ckDf G t_shown_signs d_shown_signs = true := by decide +kernel
theorem ck_all_signs : ckDf G t_all_signs d_all_signs = true := by decide +kernel
theorem ck__law_drawn : ckDf G t__law_drawn d__law_drawn = true := by decide +kernel
theorem ck__law_box : ckDf G t__law_box d__law_box = true := by decide +kernel
theorem ck__law_word : ckDf G t__law_word d__law_word = true := by decide +kernel
theorem ck__law_does : ckDf G t__law_does d__law_does = true := by decide +kernel
theorem ck__law_badbox : ckDf G t__law_badbox d__law_badbox = true := by decide +kernel
theorem ck__law_badword : ckDf G t__law_badword d__law_badword = true := by decide +kernel
theorem ck__law_error : ckDf G t__law_error d__law_error = true := by decide +kernel
theorem ck_law : ckDf G t_law d_law = true := by decide +kernel
theorem gv_ok : (G.all fun e => gvB (txs.map (·.name)) cls e.1 e.2) = true := by decide +kernel
theorem ck_all : ∀ (f : Nat) (t : Tx) (df : Df), txs[f]? = some t → prog.defs[f]? = some df → ckDf G t df = true
  | 0, _, _, e, e2 => by cases e; cases e2; exact ck_is_int
  | 1, _, _, e, e2 => by cases e; cases e2; exact ck_is_sign
  | 2, _, _, e, e2 => by cases e; cases e2; exact ck_is_string
  | 3, _, _, e, e2 => by cases e; cases e2; exact ck_rises
  | 4, _, _, e, e2 => by cases e; cases e2; exact ck_is_cube
  | 5, _, _, e, e2 => by cases e; cases e2; exact ck_are_twins
  | 6, _, _, e, e2 => by cases e; cases e2; exact ck_is_box
  | 7, _, _, e, e2 => by cases e; cases e2; exact ck_is_word
  | 8, _, _, e, e2 => by cases e; cases e2; exact ck_check_box
  | 9, _, _, e, e2 => by cases e; cases e2; exact ck_twin_of
  | 10, _, _, e, e2 => by cases e; cases e2; exact ck_does_show
  | 11, _, _, e, e2 => by cases e; cases e2; exact ck_signs_of
  | 12, _, _, e, e2 => by cases e; cases e2; exact ck_find_cubes
  | 13, _, _, e, e2 => by cases e; cases e2; exact ck_cubes_with
  | 14, _, _, e, e2 => by cases e; cases e2; exact ck_shown_signs
  | 15, _, _, e, e2 => by cases e; cases e2; exact ck_all_signs
  | 16, _, _, e, e2 => by cases e; cases e2; exact ck__law_drawn
  | 17, _, _, e, e2 => by cases e; cases e2; exact ck__law_box
  | 18, _, _, e, e2 => by cases e; cases e2; exact ck__law_word
  | 19, _, _, e, e2 => by cases e; cases e2; exact ck__law_does
  | 20, _, _, e, e2 => by cases e; cases e2; exact ck__law_badbox
  | 21, _, _, e, e2 => by cases e; cases e2; exact ck__law_badword
  | 22, _, _, e, e2 => by cases e; cases e2; exact ck__law_error
  | 23, _, _, e, e2 => by cases e; cases e2; exact ck_law
  | n + 24, _, _, e, e2 => by cases e
end K01

namespace K01
open Ev Lc
theorem is_int_i {k : Nat} {i a b : Int} : (fx prog (k + 1)).call f_is_int [.int i, .int a, .int b] = .ok (.bool (decide (a ≤ i) && decide (i ≤ b))) := by
  rw [call_at (df := d_is_int) rfl, runDf_eq rfl]
  simp -dsimp only [execs, exec, ev, evs, evO, evIf, evIt, List.map_cons, List.map_nil, thawM_dat, thaw_un, thaw_nil, thaw_sl, rep_0, rep_1, rep_2, rep_3, rep_4, rep_5, rep_6, rep_7, rep_8, rep_9, rep_10, rep_11, rep_12, rep_13, rep_14,
    List.append_nil, List.cons_append, List.nil_append, List.getElem?_cons_zero, List.getElem?_cons_succ, List.set_cons_zero, List.set_cons_succ, slotD, R.bnd_ok, R.bind_err, truth_bool, R.to_ok, R.to_err, then_next, then_ret, then_err, then_brk, res_ret, res_next, res_err, R.guard_true, R.clm_ok, fresh,
    isi_int_int, isi_int_bool, isi_int_str, isi_int_tuple, isi_int_list, isi_str_int, isi_str_bool, isi_str_str, isi_str_tuple, isi_str_list, isi_tuple_tuple, isi_tuple_str, isi_tuple_list, isi_list_list, isi_list_tuple, Bool.not_true, Bool.not_false,
    cmp_lt_int, cmp_gt_int, cmp_le_int, cmp_ge_int, cmp_eq_int, cmp_ne_int, cmp_lt_str, cmp_gt_str, cmp_eq_str, cmp_ne_str, cmp_in_sign, cmp_notin_sign, cmp_isnot_bool, cmp_is_bool, cmp_eq_bool, cmp_ne_bool,
    blt_len_list, blt_len_tuple, blt_len_str, items_list, items_tuple, items_str, seqItems_list, seqItems_tuple, seqItems_str, asInt_int, bindT_1, bindT_2, bindT_3, sub_tuple_0, sub_tuple_1, sub_list_0, bin_add_int, bin_sub_int, slice_list, slice_tuple, slice_str, unpack_1, unpack_2, unpack_3, thaw_no, X.has, hass, hasO, It.has, thawM_own, Nat.reduceBEq, Nat.reduceAdd, Bool.or_false, Bool.false_or, Bool.or_true, Bool.true_or, Bool.or_self, d_is_int]
  cases decide (a ≤ i) <;> rfl
theorem is_int_none {k : Nat} {a b : Int} : (fx prog (k + 1)).call f_is_int [.none, .int a, .int b] = .ok (.bool false) := rfl
theorem is_int_bool {k : Nat} {c : Bool} {a b : Int} : (fx prog (k + 1)).call f_is_int [.bool c, .int a, .int b] = .ok (.bool false) := rfl
theorem is_int_str {k : Nat} {l : List Nat} {a b : Int} : (fx prog (k + 1)).call f_is_int [.str l, .int a, .int b] = .ok (.bool false) := rfl
theorem is_string_s {k : Nat} {l : List Nat} {a b : Int} : (fx prog (k + 1)).call f_is_string [.str l, .int a, .int b] = .ok (.bool (okStr l a b)) := by
  rw [call_at (df := d_is_string) rfl, runDf_eq rfl]
  simp -dsimp only [execs, exec, ev, evs, evO, evIf, evIt, List.map_cons, List.map_nil, thawM_dat, thaw_un, thaw_nil, thaw_sl, rep_0, rep_1, rep_2, rep_3, rep_4, rep_5, rep_6, rep_7, rep_8, rep_9, rep_10, rep_11, rep_12, rep_13, rep_14,
    List.append_nil, List.cons_append, List.nil_append, List.getElem?_cons_zero, List.getElem?_cons_succ, List.set_cons_zero, List.set_cons_succ, slotD, R.bnd_ok, R.bind_err, truth_bool, R.to_ok, R.to_err, then_next, then_ret, then_err, then_brk, res_ret, res_next, res_err, R.guard_true, R.clm_ok, fresh,
    isi_int_int, isi_int_bool, isi_int_str, isi_int_tuple, isi_int_list, isi_str_int, isi_str_bool, isi_str_str, isi_str_tuple, isi_str_list, isi_tuple_tuple, isi_tuple_str, isi_tuple_list, isi_list_list, isi_list_tuple, Bool.not_true, Bool.not_false,
    cmp_lt_int, cmp_gt_int, cmp_le_int, cmp_ge_int, cmp_eq_int, cmp_ne_int, cmp_lt_str, cmp_gt_str, cmp_eq_str, cmp_ne_str, cmp_in_sign, cmp_notin_sign, cmp_isnot_bool, cmp_is_bool, cmp_eq_bool, cmp_ne_bool,
    blt_len_list, blt_len_tuple, blt_len_str, items_list, items_tuple, items_str, seqItems_list, seqItems_tuple, seqItems_str, asInt_int, bindT_1, bindT_2, bindT_3, sub_tuple_0, sub_tuple_1, sub_list_0, bin_add_int, bin_sub_int, slice_list, slice_tuple, slice_str, unpack_1, unpack_2, unpack_3, thaw_no, X.has, hass, hasO, It.has, thawM_own, Nat.reduceBEq, Nat.reduceAdd, Bool.or_false, Bool.false_or, Bool.or_true, Bool.true_or, Bool.or_self, d_is_string]
  unfold okStr
  cases decide (a ≤ (l.length : Int)) with
  | false => rfl
  | true =>
    simp -dsimp only [execs, exec, ev, evs, evO, evIf, evIt, List.map_cons, List.map_nil, thawM_dat, thaw_un, thaw_nil, thaw_sl, rep_0, rep_1, rep_2, rep_3, rep_4, rep_5, rep_6, rep_7, rep_8, rep_9, rep_10, rep_11, rep_12, rep_13, rep_14,
    List.append_nil, List.cons_append, List.nil_append, List.getElem?_cons_zero, List.getElem?_cons_succ, List.set_cons_zero, List.set_cons_succ, slotD, R.bnd_ok, R.bind_err, truth_bool, R.to_ok, R.to_err, then_next, then_ret, then_err, then_brk, res_ret, res_next, res_err, R.guard_true, R.clm_ok, fresh,
    isi_int_int, isi_int_bool, isi_int_str, isi_int_tuple, isi_int_list, isi_str_int, isi_str_bool, isi_str_str, isi_str_tuple, isi_str_list, isi_tuple_tuple, isi_tuple_str, isi_tuple_list, isi_list_list, isi_list_tuple, Bool.not_true, Bool.not_false,
    cmp_lt_int, cmp_gt_int, cmp_le_int, cmp_ge_int, cmp_eq_int, cmp_ne_int, cmp_lt_str, cmp_gt_str, cmp_eq_str, cmp_ne_str, cmp_in_sign, cmp_notin_sign, cmp_isnot_bool, cmp_is_bool, cmp_eq_bool, cmp_ne_bool,
    blt_len_list, blt_len_tuple, blt_len_str, items_list, items_tuple, items_str, seqItems_list, seqItems_tuple, seqItems_str, asInt_int, bindT_1, bindT_2, bindT_3, sub_tuple_0, sub_tuple_1, sub_list_0, bin_add_int, bin_sub_int, slice_list, slice_tuple, slice_str, unpack_1, unpack_2, unpack_3, thaw_no, X.has, hass, hasO, It.has, thawM_own, Nat.reduceBEq, Nat.reduceAdd, Bool.or_false, Bool.false_or, Bool.or_true, Bool.true_or, Bool.or_self]
    cases decide ((l.length : Int) ≤ b) with
    | false => rfl
    | true =>
      simp -dsimp only [execs, exec, ev, evs, evO, evIf, evIt, List.map_cons, List.map_nil, thawM_dat, thaw_un, thaw_nil, thaw_sl, rep_0, rep_1, rep_2, rep_3, rep_4, rep_5, rep_6, rep_7, rep_8, rep_9, rep_10, rep_11, rep_12, rep_13, rep_14,
    List.append_nil, List.cons_append, List.nil_append, List.getElem?_cons_zero, List.getElem?_cons_succ, List.set_cons_zero, List.set_cons_succ, slotD, R.bnd_ok, R.bind_err, truth_bool, R.to_ok, R.to_err, then_next, then_ret, then_err, then_brk, res_ret, res_next, res_err, R.guard_true, R.clm_ok, fresh,
    isi_int_int, isi_int_bool, isi_int_str, isi_int_tuple, isi_int_list, isi_str_int, isi_str_bool, isi_str_str, isi_str_tuple, isi_str_list, isi_tuple_tuple, isi_tuple_str, isi_tuple_list, isi_list_list, isi_list_tuple, Bool.not_true, Bool.not_false,
    cmp_lt_int, cmp_gt_int, cmp_le_int, cmp_ge_int, cmp_eq_int, cmp_ne_int, cmp_lt_str, cmp_gt_str, cmp_eq_str, cmp_ne_str, cmp_in_sign, cmp_notin_sign, cmp_isnot_bool, cmp_is_bool, cmp_eq_bool, cmp_ne_bool,
    blt_len_list, blt_len_tuple, blt_len_str, items_list, items_tuple, items_str, seqItems_list, seqItems_tuple, seqItems_str, asInt_int, bindT_1, bindT_2, bindT_3, sub_tuple_0, sub_tuple_1, sub_list_0, bin_add_int, bin_sub_int, slice_list, slice_tuple, slice_str, unpack_1, unpack_2, unpack_3, thaw_no, X.has, hass, hasO, It.has, thawM_own, Nat.reduceBEq, Nat.reduceAdd, Bool.or_false, Bool.false_or, Bool.or_true, Bool.true_or, Bool.or_self]
      rw [filtR_mapAll (g := fun c => D.bool (okSign c)) (fun c _ => by simp -dsimp only [execs, exec, ev, evs, evO, evIf, evIt, List.map_cons, List.map_nil, thawM_dat, thaw_un, thaw_nil, thaw_sl, rep_0, rep_1, rep_2, rep_3, rep_4, rep_5, rep_6, rep_7, rep_8, rep_9, rep_10, rep_11, rep_12, rep_13, rep_14,
    List.append_nil, List.cons_append, List.nil_append, List.getElem?_cons_zero, List.getElem?_cons_succ, List.set_cons_zero, List.set_cons_succ, slotD, R.bnd_ok, R.bind_err, truth_bool, R.to_ok, R.to_err, then_next, then_ret, then_err, then_brk, res_ret, res_next, res_err, R.guard_true, R.clm_ok, fresh,
    isi_int_int, isi_int_bool, isi_int_str, isi_int_tuple, isi_int_list, isi_str_int, isi_str_bool, isi_str_str, isi_str_tuple, isi_str_list, isi_tuple_tuple, isi_tuple_str, isi_tuple_list, isi_list_list, isi_list_tuple, Bool.not_true, Bool.not_false,
    cmp_lt_int, cmp_gt_int, cmp_le_int, cmp_ge_int, cmp_eq_int, cmp_ne_int, cmp_lt_str, cmp_gt_str, cmp_eq_str, cmp_ne_str, cmp_in_sign, cmp_notin_sign, cmp_isnot_bool, cmp_is_bool, cmp_eq_bool, cmp_ne_bool,
    blt_len_list, blt_len_tuple, blt_len_str, items_list, items_tuple, items_str, seqItems_list, seqItems_tuple, seqItems_str, asInt_int, bindT_1, bindT_2, bindT_3, sub_tuple_0, sub_tuple_1, sub_list_0, bin_add_int, bin_sub_int, slice_list, slice_tuple, slice_str, unpack_1, unpack_2, unpack_3, thaw_no, X.has, hass, hasO, It.has, thawM_own, Nat.reduceBEq, Nat.reduceAdd, Bool.or_false, Bool.false_or, Bool.or_true, Bool.true_or, Bool.or_self]; rfl)]
      simp -dsimp only [execs, exec, ev, evs, evO, evIf, evIt, List.map_cons, List.map_nil, thawM_dat, thaw_un, thaw_nil, thaw_sl, rep_0, rep_1, rep_2, rep_3, rep_4, rep_5, rep_6, rep_7, rep_8, rep_9, rep_10, rep_11, rep_12, rep_13, rep_14,
    List.append_nil, List.cons_append, List.nil_append, List.getElem?_cons_zero, List.getElem?_cons_succ, List.set_cons_zero, List.set_cons_succ, slotD, R.bnd_ok, R.bind_err, truth_bool, R.to_ok, R.to_err, then_next, then_ret, then_err, then_brk, res_ret, res_next, res_err, R.guard_true, R.clm_ok, fresh,
    isi_int_int, isi_int_bool, isi_int_str, isi_int_tuple, isi_int_list, isi_str_int, isi_str_bool, isi_str_str, isi_str_tuple, isi_str_list, isi_tuple_tuple, isi_tuple_str, isi_tuple_list, isi_list_list, isi_list_tuple, Bool.not_true, Bool.not_false,
    cmp_lt_int, cmp_gt_int, cmp_le_int, cmp_ge_int, cmp_eq_int, cmp_ne_int, cmp_lt_str, cmp_gt_str, cmp_eq_str, cmp_ne_str, cmp_in_sign, cmp_notin_sign, cmp_isnot_bool, cmp_is_bool, cmp_eq_bool, cmp_ne_bool,
    blt_len_list, blt_len_tuple, blt_len_str, items_list, items_tuple, items_str, seqItems_list, seqItems_tuple, seqItems_str, asInt_int, bindT_1, bindT_2, bindT_3, sub_tuple_0, sub_tuple_1, sub_list_0, bin_add_int, bin_sub_int, slice_list, slice_tuple, slice_str, unpack_1, unpack_2, unpack_3, thaw_no, X.has, hass, hasO, It.has, thawM_own, Nat.reduceBEq, Nat.reduceAdd, Bool.or_false, Bool.false_or, Bool.or_true, Bool.true_or, Bool.or_self, blt_all]
      rfl
theorem rises_core {k : Nat} {d : D} {xs : List W} (h1 : seqItems d = .ok (xs.map .str)) (h2 : ∃ d', sliceD d (some 1) none = .ok d' ∧ seqItems d' = .ok ((xs.drop 1).map .str)) : (fx prog (k + 1)).call f_rises [d] = .ok (.bool (risesL xs)) := by
  obtain ⟨d', h2, h3⟩ := h2
  rw [call_at (df := d_rises) rfl, runDf_eq rfl]
  have e1 : smallIx 1 = true := by decide
  simp -dsimp only [execs, exec, ev, evs, evO, evIf, evIt, List.map_cons, List.map_nil, thawM_dat, thaw_un, thaw_nil, thaw_sl, rep_0, rep_1, rep_2, rep_3, rep_4, rep_5, rep_6, rep_7, rep_8, rep_9, rep_10, rep_11, rep_12, rep_13, rep_14,
    List.append_nil, List.cons_append, List.nil_append, List.getElem?_cons_zero, List.getElem?_cons_succ, List.set_cons_zero, List.set_cons_succ, slotD, R.bnd_ok, R.bind_err, truth_bool, R.to_ok, R.to_err, then_next, then_ret, then_err, then_brk, res_ret, res_next, res_err, R.guard_true, R.clm_ok, fresh,
    isi_int_int, isi_int_bool, isi_int_str, isi_int_tuple, isi_int_list, isi_str_int, isi_str_bool, isi_str_str, isi_str_tuple, isi_str_list, isi_tuple_tuple, isi_tuple_str, isi_tuple_list, isi_list_list, isi_list_tuple, Bool.not_true, Bool.not_false,
    cmp_lt_int, cmp_gt_int, cmp_le_int, cmp_ge_int, cmp_eq_int, cmp_ne_int, cmp_lt_str, cmp_gt_str, cmp_eq_str, cmp_ne_str, cmp_in_sign, cmp_notin_sign, cmp_isnot_bool, cmp_is_bool, cmp_eq_bool, cmp_ne_bool,
    blt_len_list, blt_len_tuple, blt_len_str, items_list, items_tuple, items_str, seqItems_list, seqItems_tuple, seqItems_str, asInt_int, bindT_1, bindT_2, bindT_3, sub_tuple_0, sub_tuple_1, sub_list_0, bin_add_int, bin_sub_int, slice_list, slice_tuple, slice_str, unpack_1, unpack_2, unpack_3, thaw_no, X.has, hass, hasO, It.has, thawM_own, Nat.reduceBEq, Nat.reduceAdd, Bool.or_false, Bool.false_or, Bool.or_true, Bool.true_or, Bool.or_self, d_rises, e1, h2, h1, h3, zipD_map]
  rw [filtR_mapAll (g := fun p : W × W => D.bool (decide (p.1 < p.2))) (fun p _ => by simp -dsimp only [execs, exec, ev, evs, evO, evIf, evIt, List.map_cons, List.map_nil, thawM_dat, thaw_un, thaw_nil, thaw_sl, rep_0, rep_1, rep_2, rep_3, rep_4, rep_5, rep_6, rep_7, rep_8, rep_9, rep_10, rep_11, rep_12, rep_13, rep_14,
    List.append_nil, List.cons_append, List.nil_append, List.getElem?_cons_zero, List.getElem?_cons_succ, List.set_cons_zero, List.set_cons_succ, slotD, R.bnd_ok, R.bind_err, truth_bool, R.to_ok, R.to_err, then_next, then_ret, then_err, then_brk, res_ret, res_next, res_err, R.guard_true, R.clm_ok, fresh,
    isi_int_int, isi_int_bool, isi_int_str, isi_int_tuple, isi_int_list, isi_str_int, isi_str_bool, isi_str_str, isi_str_tuple, isi_str_list, isi_tuple_tuple, isi_tuple_str, isi_tuple_list, isi_list_list, isi_list_tuple, Bool.not_true, Bool.not_false,
    cmp_lt_int, cmp_gt_int, cmp_le_int, cmp_ge_int, cmp_eq_int, cmp_ne_int, cmp_lt_str, cmp_gt_str, cmp_eq_str, cmp_ne_str, cmp_in_sign, cmp_notin_sign, cmp_isnot_bool, cmp_is_bool, cmp_eq_bool, cmp_ne_bool,
    blt_len_list, blt_len_tuple, blt_len_str, items_list, items_tuple, items_str, seqItems_list, seqItems_tuple, seqItems_str, asInt_int, bindT_1, bindT_2, bindT_3, sub_tuple_0, sub_tuple_1, sub_list_0, bin_add_int, bin_sub_int, slice_list, slice_tuple, slice_str, unpack_1, unpack_2, unpack_3, thaw_no, X.has, hass, hasO, It.has, thawM_own, Nat.reduceBEq, Nat.reduceAdd, Bool.or_false, Bool.false_or, Bool.or_true, Bool.true_or, Bool.or_self])]
  simp -dsimp only [execs, exec, ev, evs, evO, evIf, evIt, List.map_cons, List.map_nil, thawM_dat, thaw_un, thaw_nil, thaw_sl, rep_0, rep_1, rep_2, rep_3, rep_4, rep_5, rep_6, rep_7, rep_8, rep_9, rep_10, rep_11, rep_12, rep_13, rep_14,
    List.append_nil, List.cons_append, List.nil_append, List.getElem?_cons_zero, List.getElem?_cons_succ, List.set_cons_zero, List.set_cons_succ, slotD, R.bnd_ok, R.bind_err, truth_bool, R.to_ok, R.to_err, then_next, then_ret, then_err, then_brk, res_ret, res_next, res_err, R.guard_true, R.clm_ok, fresh,
    isi_int_int, isi_int_bool, isi_int_str, isi_int_tuple, isi_int_list, isi_str_int, isi_str_bool, isi_str_str, isi_str_tuple, isi_str_list, isi_tuple_tuple, isi_tuple_str, isi_tuple_list, isi_list_list, isi_list_tuple, Bool.not_true, Bool.not_false,
    cmp_lt_int, cmp_gt_int, cmp_le_int, cmp_ge_int, cmp_eq_int, cmp_ne_int, cmp_lt_str, cmp_gt_str, cmp_eq_str, cmp_ne_str, cmp_in_sign, cmp_notin_sign, cmp_isnot_bool, cmp_is_bool, cmp_eq_bool, cmp_ne_bool,
    blt_len_list, blt_len_tuple, blt_len_str, items_list, items_tuple, items_str, seqItems_list, seqItems_tuple, seqItems_str, asInt_int, bindT_1, bindT_2, bindT_3, sub_tuple_0, sub_tuple_1, sub_list_0, bin_add_int, bin_sub_int, slice_list, slice_tuple, slice_str, unpack_1, unpack_2, unpack_3, thaw_no, X.has, hass, hasO, It.has, thawM_own, Nat.reduceBEq, Nat.reduceAdd, Bool.or_false, Bool.false_or, Bool.or_true, Bool.true_or, Bool.or_self, blt_all]
  rfl
theorem rises_s {k : Nat} {l : W} : (fx prog (k + 1)).call f_rises [.str l] = .ok (.bool (risesL (sg l))) := by
  refine rises_core ?_ ⟨_, rfl, ?_⟩
  · unfold sg
    rw [List.map_map]
    rfl
  · unfold sg
    rw [cut_from1, ← List.map_drop, List.map_map]
    rfl
theorem rises_t {k : Nat} {xs : List W} : (fx prog (k + 1)).call f_rises [.tuple (xs.map .str)] = .ok (.bool (risesL xs)) := by
  refine rises_core rfl ⟨_, rfl, ?_⟩
  rw [cut_from1, ← List.map_drop]
  rfl
theorem is_cube_s {k : Nat} {l : W} : (fx prog (k + 2)).call f_is_cube [.str l] = .ok (.bool (okCube l)) := by
  rw [call_at (df := d_is_cube) rfl, runDf_eq rfl]
  simp -dsimp only [execs, exec, ev, evs, evO, evIf, evIt, List.map_cons, List.map_nil, thawM_dat, thaw_un, thaw_nil, thaw_sl, rep_0, rep_1, rep_2, rep_3, rep_4, rep_5, rep_6, rep_7, rep_8, rep_9, rep_10, rep_11, rep_12, rep_13, rep_14,
    List.append_nil, List.cons_append, List.nil_append, List.getElem?_cons_zero, List.getElem?_cons_succ, List.set_cons_zero, List.set_cons_succ, slotD, R.bnd_ok, R.bind_err, truth_bool, R.to_ok, R.to_err, then_next, then_ret, then_err, then_brk, res_ret, res_next, res_err, R.guard_true, R.clm_ok, fresh,
    isi_int_int, isi_int_bool, isi_int_str, isi_int_tuple, isi_int_list, isi_str_int, isi_str_bool, isi_str_str, isi_str_tuple, isi_str_list, isi_tuple_tuple, isi_tuple_str, isi_tuple_list, isi_list_list, isi_list_tuple, Bool.not_true, Bool.not_false,
    cmp_lt_int, cmp_gt_int, cmp_le_int, cmp_ge_int, cmp_eq_int, cmp_ne_int, cmp_lt_str, cmp_gt_str, cmp_eq_str, cmp_ne_str, cmp_in_sign, cmp_notin_sign, cmp_isnot_bool, cmp_is_bool, cmp_eq_bool, cmp_ne_bool,
    blt_len_list, blt_len_tuple, blt_len_str, items_list, items_tuple, items_str, seqItems_list, seqItems_tuple, seqItems_str, asInt_int, bindT_1, bindT_2, bindT_3, sub_tuple_0, sub_tuple_1, sub_list_0, bin_add_int, bin_sub_int, slice_list, slice_tuple, slice_str, unpack_1, unpack_2, unpack_3, thaw_no, X.has, hass, hasO, It.has, thawM_own, Nat.reduceBEq, Nat.reduceAdd, Bool.or_false, Bool.false_or, Bool.or_true, Bool.true_or, Bool.or_self, d_is_cube, is_string_s, rises_s]
  unfold okCube
  cases okStr l 1 6 <;> rfl
theorem okT_str {t : Tw} (h : OkT t) {p : Nat × Nat} (hp : p ∈ t) : okStr (pw p) 2 2 = true ∧ risesL (sg (pw p)) = true := by
  refine ⟨?_, ?_⟩
  · unfold okStr
    have h2 := h.sg p hp
    show (true && (true && ([p.1, p.2].all okSign))) = true
    rw [List.all_cons, List.all_cons, h2.1, h2.2]
    rfl
  · refine sg_up ?_
    unfold pw
    simp [h.lt p hp]
theorem flat_pw (t : Tw) : (t.map pw).flatten = t.flatMap pw := by rw [List.flatMap_def]
theorem flat_len (t : Tw) : (t.flatMap pw).length = 2 * t.length := by
  induction t with
  | nil => rfl
  | cons p t ih =>
    rw [List.flatMap_cons, List.length_append, ih, List.length_cons]
    show 2 + 2 * t.length = _
    omega
theorem are_twins_t {k : Nat} {t : Tw} (h : OkT t) : (fx prog (k + 2)).call f_are_twins [dTw t] = .ok (.bool true) := by
  rw [call_at (df := d_are_twins) rfl, runDf_eq rfl]
  have e1 : decide ((4 : Int) < (t.length : Int)) = false := decide_eq_false (by have := h.few; omega)
  have e2 : dTw t = .tuple ((t.map pw).map .str) := by unfold dTw; rw [List.map_map]; rfl
  simp -dsimp only [execs, exec, ev, evs, evO, evIf, evIt, List.map_cons, List.map_nil, thawM_dat, thaw_un, thaw_nil, thaw_sl, rep_0, rep_1, rep_2, rep_3, rep_4, rep_5, rep_6, rep_7, rep_8, rep_9, rep_10, rep_11, rep_12, rep_13, rep_14,
    List.append_nil, List.cons_append, List.nil_append, List.getElem?_cons_zero, List.getElem?_cons_succ, List.set_cons_zero, List.set_cons_succ, slotD, R.bnd_ok, R.bind_err, truth_bool, R.to_ok, R.to_err, then_next, then_ret, then_err, then_brk, res_ret, res_next, res_err, R.guard_true, R.clm_ok, fresh,
    isi_int_int, isi_int_bool, isi_int_str, isi_int_tuple, isi_int_list, isi_str_int, isi_str_bool, isi_str_str, isi_str_tuple, isi_str_list, isi_tuple_tuple, isi_tuple_str, isi_tuple_list, isi_list_list, isi_list_tuple, Bool.not_true, Bool.not_false,
    cmp_lt_int, cmp_gt_int, cmp_le_int, cmp_ge_int, cmp_eq_int, cmp_ne_int, cmp_lt_str, cmp_gt_str, cmp_eq_str, cmp_ne_str, cmp_in_sign, cmp_notin_sign, cmp_isnot_bool, cmp_is_bool, cmp_eq_bool, cmp_ne_bool,
    blt_len_list, blt_len_tuple, blt_len_str, items_list, items_tuple, items_str, seqItems_list, seqItems_tuple, seqItems_str, asInt_int, bindT_1, bindT_2, bindT_3, sub_tuple_0, sub_tuple_1, sub_list_0, bin_add_int, bin_sub_int, slice_list, slice_tuple, slice_str, unpack_1, unpack_2, unpack_3, thaw_no, X.has, hass, hasO, It.has, thawM_own, Nat.reduceBEq, Nat.reduceAdd, Bool.or_false, Bool.false_or, Bool.or_true, Bool.true_or, Bool.or_self, d_are_twins, dTw, List.length_map, e1]
  rw [filtR_mapAll (g := fun p : Nat × Nat => D.bool true) (fun p hp => by
    simp -dsimp only [execs, exec, ev, evs, evO, evIf, evIt, List.map_cons, List.map_nil, thawM_dat, thaw_un, thaw_nil, thaw_sl, rep_0, rep_1, rep_2, rep_3, rep_4, rep_5, rep_6, rep_7, rep_8, rep_9, rep_10, rep_11, rep_12, rep_13, rep_14,
    List.append_nil, List.cons_append, List.nil_append, List.getElem?_cons_zero, List.getElem?_cons_succ, List.set_cons_zero, List.set_cons_succ, slotD, R.bnd_ok, R.bind_err, truth_bool, R.to_ok, R.to_err, then_next, then_ret, then_err, then_brk, res_ret, res_next, res_err, R.guard_true, R.clm_ok, fresh,
    isi_int_int, isi_int_bool, isi_int_str, isi_int_tuple, isi_int_list, isi_str_int, isi_str_bool, isi_str_str, isi_str_tuple, isi_str_list, isi_tuple_tuple, isi_tuple_str, isi_tuple_list, isi_list_list, isi_list_tuple, Bool.not_true, Bool.not_false,
    cmp_lt_int, cmp_gt_int, cmp_le_int, cmp_ge_int, cmp_eq_int, cmp_ne_int, cmp_lt_str, cmp_gt_str, cmp_eq_str, cmp_ne_str, cmp_in_sign, cmp_notin_sign, cmp_isnot_bool, cmp_is_bool, cmp_eq_bool, cmp_ne_bool,
    blt_len_list, blt_len_tuple, blt_len_str, items_list, items_tuple, items_str, seqItems_list, seqItems_tuple, seqItems_str, asInt_int, bindT_1, bindT_2, bindT_3, sub_tuple_0, sub_tuple_1, sub_list_0, bin_add_int, bin_sub_int, slice_list, slice_tuple, slice_str, unpack_1, unpack_2, unpack_3, thaw_no, X.has, hass, hasO, It.has, thawM_own, Nat.reduceBEq, Nat.reduceAdd, Bool.or_false, Bool.false_or, Bool.or_true, Bool.true_or, Bool.or_self, is_string_s, (okT_str h hp).1, rises_s, (okT_str h hp).2])]
  simp -dsimp only [execs, exec, ev, evs, evO, evIf, evIt, List.map_cons, List.map_nil, thawM_dat, thaw_un, thaw_nil, thaw_sl, rep_0, rep_1, rep_2, rep_3, rep_4, rep_5, rep_6, rep_7, rep_8, rep_9, rep_10, rep_11, rep_12, rep_13, rep_14,
    List.append_nil, List.cons_append, List.nil_append, List.getElem?_cons_zero, List.getElem?_cons_succ, List.set_cons_zero, List.set_cons_succ, slotD, R.bnd_ok, R.bind_err, truth_bool, R.to_ok, R.to_err, then_next, then_ret, then_err, then_brk, res_ret, res_next, res_err, R.guard_true, R.clm_ok, fresh,
    isi_int_int, isi_int_bool, isi_int_str, isi_int_tuple, isi_int_list, isi_str_int, isi_str_bool, isi_str_str, isi_str_tuple, isi_str_list, isi_tuple_tuple, isi_tuple_str, isi_tuple_list, isi_list_list, isi_list_tuple, Bool.not_true, Bool.not_false,
    cmp_lt_int, cmp_gt_int, cmp_le_int, cmp_ge_int, cmp_eq_int, cmp_ne_int, cmp_lt_str, cmp_gt_str, cmp_eq_str, cmp_ne_str, cmp_in_sign, cmp_notin_sign, cmp_isnot_bool, cmp_is_bool, cmp_eq_bool, cmp_ne_bool,
    blt_len_list, blt_len_tuple, blt_len_str, items_list, items_tuple, items_str, seqItems_list, seqItems_tuple, seqItems_str, asInt_int, bindT_1, bindT_2, bindT_3, sub_tuple_0, sub_tuple_1, sub_list_0, bin_add_int, bin_sub_int, slice_list, slice_tuple, slice_str, unpack_1, unpack_2, unpack_3, thaw_no, X.has, hass, hasO, It.has, thawM_own, Nat.reduceBEq, Nat.reduceAdd, Bool.or_false, Bool.false_or, Bool.or_true, Bool.true_or, Bool.or_self, blt_all, R.bnd_ok]
  rw [show (t.all fun _ => true) = true from List.all_eq_true.mpr fun _ _ => rfl]
  simp -dsimp only [execs, exec, ev, evs, evO, evIf, evIt, List.map_cons, List.map_nil, thawM_dat, thaw_un, thaw_nil, thaw_sl, rep_0, rep_1, rep_2, rep_3, rep_4, rep_5, rep_6, rep_7, rep_8, rep_9, rep_10, rep_11, rep_12, rep_13, rep_14,
    List.append_nil, List.cons_append, List.nil_append, List.getElem?_cons_zero, List.getElem?_cons_succ, List.set_cons_zero, List.set_cons_succ, slotD, R.bnd_ok, R.bind_err, truth_bool, R.to_ok, R.to_err, then_next, then_ret, then_err, then_brk, res_ret, res_next, res_err, R.guard_true, R.clm_ok, fresh,
    isi_int_int, isi_int_bool, isi_int_str, isi_int_tuple, isi_int_list, isi_str_int, isi_str_bool, isi_str_str, isi_str_tuple, isi_str_list, isi_tuple_tuple, isi_tuple_str, isi_tuple_list, isi_list_list, isi_list_tuple, Bool.not_true, Bool.not_false,
    cmp_lt_int, cmp_gt_int, cmp_le_int, cmp_ge_int, cmp_eq_int, cmp_ne_int, cmp_lt_str, cmp_gt_str, cmp_eq_str, cmp_ne_str, cmp_in_sign, cmp_notin_sign, cmp_isnot_bool, cmp_is_bool, cmp_eq_bool, cmp_ne_bool,
    blt_len_list, blt_len_tuple, blt_len_str, items_list, items_tuple, items_str, seqItems_list, seqItems_tuple, seqItems_str, asInt_int, bindT_1, bindT_2, bindT_3, sub_tuple_0, sub_tuple_1, sub_list_0, bin_add_int, bin_sub_int, slice_list, slice_tuple, slice_str, unpack_1, unpack_2, unpack_3, thaw_no, X.has, hass, hasO, It.has, thawM_own, Nat.reduceBEq, Nat.reduceAdd, Bool.or_false, Bool.false_or, Bool.or_true, Bool.true_or, Bool.or_self]
  rw [show D.tuple (t.map fun p => D.str (pw p)) = .tuple ((t.map pw).map .str) from e2]
  simp -dsimp only [execs, exec, ev, evs, evO, evIf, evIt, List.map_cons, List.map_nil, thawM_dat, thaw_un, thaw_nil, thaw_sl, rep_0, rep_1, rep_2, rep_3, rep_4, rep_5, rep_6, rep_7, rep_8, rep_9, rep_10, rep_11, rep_12, rep_13, rep_14,
    List.append_nil, List.cons_append, List.nil_append, List.getElem?_cons_zero, List.getElem?_cons_succ, List.set_cons_zero, List.set_cons_succ, slotD, R.bnd_ok, R.bind_err, truth_bool, R.to_ok, R.to_err, then_next, then_ret, then_err, then_brk, res_ret, res_next, res_err, R.guard_true, R.clm_ok, fresh,
    isi_int_int, isi_int_bool, isi_int_str, isi_int_tuple, isi_int_list, isi_str_int, isi_str_bool, isi_str_str, isi_str_tuple, isi_str_list, isi_tuple_tuple, isi_tuple_str, isi_tuple_list, isi_list_list, isi_list_tuple, Bool.not_true, Bool.not_false,
    cmp_lt_int, cmp_gt_int, cmp_le_int, cmp_ge_int, cmp_eq_int, cmp_ne_int, cmp_lt_str, cmp_gt_str, cmp_eq_str, cmp_ne_str, cmp_in_sign, cmp_notin_sign, cmp_isnot_bool, cmp_is_bool, cmp_eq_bool, cmp_ne_bool,
    blt_len_list, blt_len_tuple, blt_len_str, items_list, items_tuple, items_str, seqItems_list, seqItems_tuple, seqItems_str, asInt_int, bindT_1, bindT_2, bindT_3, sub_tuple_0, sub_tuple_1, sub_list_0, bin_add_int, bin_sub_int, slice_list, slice_tuple, slice_str, unpack_1, unpack_2, unpack_3, thaw_no, X.has, hass, hasO, It.has, thawM_own, Nat.reduceBEq, Nat.reduceAdd, Bool.or_false, Bool.false_or, Bool.or_true, Bool.true_or, Bool.or_self, rises_t, h.up, mOk]
  rw [join_nil (.inr rfl) (by rw [flat_pw, flat_len]; have := h.few; omega)]
  simp -dsimp only [execs, exec, ev, evs, evO, evIf, evIt, List.map_cons, List.map_nil, thawM_dat, thaw_un, thaw_nil, thaw_sl, rep_0, rep_1, rep_2, rep_3, rep_4, rep_5, rep_6, rep_7, rep_8, rep_9, rep_10, rep_11, rep_12, rep_13, rep_14,
    List.append_nil, List.cons_append, List.nil_append, List.getElem?_cons_zero, List.getElem?_cons_succ, List.set_cons_zero, List.set_cons_succ, slotD, R.bnd_ok, R.bind_err, truth_bool, R.to_ok, R.to_err, then_next, then_ret, then_err, then_brk, res_ret, res_next, res_err, R.guard_true, R.clm_ok, fresh,
    isi_int_int, isi_int_bool, isi_int_str, isi_int_tuple, isi_int_list, isi_str_int, isi_str_bool, isi_str_str, isi_str_tuple, isi_str_list, isi_tuple_tuple, isi_tuple_str, isi_tuple_list, isi_list_list, isi_list_tuple, Bool.not_true, Bool.not_false,
    cmp_lt_int, cmp_gt_int, cmp_le_int, cmp_ge_int, cmp_eq_int, cmp_ne_int, cmp_lt_str, cmp_gt_str, cmp_eq_str, cmp_ne_str, cmp_in_sign, cmp_notin_sign, cmp_isnot_bool, cmp_is_bool, cmp_eq_bool, cmp_ne_bool,
    blt_len_list, blt_len_tuple, blt_len_str, items_list, items_tuple, items_str, seqItems_list, seqItems_tuple, seqItems_str, asInt_int, bindT_1, bindT_2, bindT_3, sub_tuple_0, sub_tuple_1, sub_list_0, bin_add_int, bin_sub_int, slice_list, slice_tuple, slice_str, unpack_1, unpack_2, unpack_3, thaw_no, X.has, hass, hasO, It.has, thawM_own, Nat.reduceBEq, Nat.reduceAdd, Bool.or_false, Bool.false_or, Bool.or_true, Bool.true_or, Bool.or_self, scalar, after]
  rw [lenSet_strs (l := sg (t.flatMap pw)) (by rw [flat_pw]; unfold sg; rw [List.map_map]; rfl) (by unfold sg; rw [List.length_map, flat_len]; have := h.few; omega)]
  have e3 : (once (sg (t.flatMap pw))).length = (t.flatMap pw).length := by
    rw [onceM_nodup]
    · unfold sg; rw [List.length_map]
    · unfold sg
      exact List.Pairwise.map _ (fun a b hn e => hn (by cases e; rfl)) h.nd
  simp -dsimp only [execs, exec, ev, evs, evO, evIf, evIt, List.map_cons, List.map_nil, thawM_dat, thaw_un, thaw_nil, thaw_sl, rep_0, rep_1, rep_2, rep_3, rep_4, rep_5, rep_6, rep_7, rep_8, rep_9, rep_10, rep_11, rep_12, rep_13, rep_14,
    List.append_nil, List.cons_append, List.nil_append, List.getElem?_cons_zero, List.getElem?_cons_succ, List.set_cons_zero, List.set_cons_succ, slotD, R.bnd_ok, R.bind_err, truth_bool, R.to_ok, R.to_err, then_next, then_ret, then_err, then_brk, res_ret, res_next, res_err, R.guard_true, R.clm_ok, fresh,
    isi_int_int, isi_int_bool, isi_int_str, isi_int_tuple, isi_int_list, isi_str_int, isi_str_bool, isi_str_str, isi_str_tuple, isi_str_list, isi_tuple_tuple, isi_tuple_str, isi_tuple_list, isi_list_list, isi_list_tuple, Bool.not_true, Bool.not_false,
    cmp_lt_int, cmp_gt_int, cmp_le_int, cmp_ge_int, cmp_eq_int, cmp_ne_int, cmp_lt_str, cmp_gt_str, cmp_eq_str, cmp_ne_str, cmp_in_sign, cmp_notin_sign, cmp_isnot_bool, cmp_is_bool, cmp_eq_bool, cmp_ne_bool,
    blt_len_list, blt_len_tuple, blt_len_str, items_list, items_tuple, items_str, seqItems_list, seqItems_tuple, seqItems_str, asInt_int, bindT_1, bindT_2, bindT_3, sub_tuple_0, sub_tuple_1, sub_list_0, bin_add_int, bin_sub_int, slice_list, slice_tuple, slice_str, unpack_1, unpack_2, unpack_3, thaw_no, X.has, hass, hasO, It.has, thawM_own, Nat.reduceBEq, Nat.reduceAdd, Bool.or_false, Bool.false_or, Bool.or_true, Bool.true_or, Bool.or_self, e3, flat_pw]
  rfl
theorem is_box_b {k : Nat} {cs : List W} {t : Tw} (h : OkB cs t) : (fx prog (k + 3)).call f_is_box [dBox cs t] = .ok (.bool true) := by
  rw [call_at (df := d_is_box) rfl, runDf_eq rfl]
  have e0 : decide ((([D.tuple (cs.map D.str), dTw t] : List D).length : Int) ≠ 2) = false := by rfl
  have e1 : decide ((1 : Int) ≤ (cs.length : Int)) = true := decide_eq_true (by have := h.pos; omega)
  have e2 : decide ((cs.length : Int) ≤ 6) = true := decide_eq_true (by have := h.few; omega)
  simp -dsimp only [execs, exec, ev, evs, evO, evIf, evIt, List.map_cons, List.map_nil, thawM_dat, thaw_un, thaw_nil, thaw_sl, rep_0, rep_1, rep_2, rep_3, rep_4, rep_5, rep_6, rep_7, rep_8, rep_9, rep_10, rep_11, rep_12, rep_13, rep_14,
    List.append_nil, List.cons_append, List.nil_append, List.getElem?_cons_zero, List.getElem?_cons_succ, List.set_cons_zero, List.set_cons_succ, slotD, R.bnd_ok, R.bind_err, truth_bool, R.to_ok, R.to_err, then_next, then_ret, then_err, then_brk, res_ret, res_next, res_err, R.guard_true, R.clm_ok, fresh,
    isi_int_int, isi_int_bool, isi_int_str, isi_int_tuple, isi_int_list, isi_str_int, isi_str_bool, isi_str_str, isi_str_tuple, isi_str_list, isi_tuple_tuple, isi_tuple_str, isi_tuple_list, isi_list_list, isi_list_tuple, Bool.not_true, Bool.not_false,
    cmp_lt_int, cmp_gt_int, cmp_le_int, cmp_ge_int, cmp_eq_int, cmp_ne_int, cmp_lt_str, cmp_gt_str, cmp_eq_str, cmp_ne_str, cmp_in_sign, cmp_notin_sign, cmp_isnot_bool, cmp_is_bool, cmp_eq_bool, cmp_ne_bool,
    blt_len_list, blt_len_tuple, blt_len_str, items_list, items_tuple, items_str, seqItems_list, seqItems_tuple, seqItems_str, asInt_int, bindT_1, bindT_2, bindT_3, sub_tuple_0, sub_tuple_1, sub_list_0, bin_add_int, bin_sub_int, slice_list, slice_tuple, slice_str, unpack_1, unpack_2, unpack_3, thaw_no, X.has, hass, hasO, It.has, thawM_own, Nat.reduceBEq, Nat.reduceAdd, Bool.or_false, Bool.false_or, Bool.or_true, Bool.true_or, Bool.or_self, d_is_box, dBox, e0, unpack, after, scalar, setAll, dTs, List.length_map, e1, e2]
  rw [filtR_mapAll (g := fun c : W => D.bool true) (fun c hc => by simp -dsimp only [execs, exec, ev, evs, evO, evIf, evIt, List.map_cons, List.map_nil, thawM_dat, thaw_un, thaw_nil, thaw_sl, rep_0, rep_1, rep_2, rep_3, rep_4, rep_5, rep_6, rep_7, rep_8, rep_9, rep_10, rep_11, rep_12, rep_13, rep_14,
    List.append_nil, List.cons_append, List.nil_append, List.getElem?_cons_zero, List.getElem?_cons_succ, List.set_cons_zero, List.set_cons_succ, slotD, R.bnd_ok, R.bind_err, truth_bool, R.to_ok, R.to_err, then_next, then_ret, then_err, then_brk, res_ret, res_next, res_err, R.guard_true, R.clm_ok, fresh,
    isi_int_int, isi_int_bool, isi_int_str, isi_int_tuple, isi_int_list, isi_str_int, isi_str_bool, isi_str_str, isi_str_tuple, isi_str_list, isi_tuple_tuple, isi_tuple_str, isi_tuple_list, isi_list_list, isi_list_tuple, Bool.not_true, Bool.not_false,
    cmp_lt_int, cmp_gt_int, cmp_le_int, cmp_ge_int, cmp_eq_int, cmp_ne_int, cmp_lt_str, cmp_gt_str, cmp_eq_str, cmp_ne_str, cmp_in_sign, cmp_notin_sign, cmp_isnot_bool, cmp_is_bool, cmp_eq_bool, cmp_ne_bool,
    blt_len_list, blt_len_tuple, blt_len_str, items_list, items_tuple, items_str, seqItems_list, seqItems_tuple, seqItems_str, asInt_int, bindT_1, bindT_2, bindT_3, sub_tuple_0, sub_tuple_1, sub_list_0, bin_add_int, bin_sub_int, slice_list, slice_tuple, slice_str, unpack_1, unpack_2, unpack_3, thaw_no, X.has, hass, hasO, It.has, thawM_own, Nat.reduceBEq, Nat.reduceAdd, Bool.or_false, Bool.false_or, Bool.or_true, Bool.true_or, Bool.or_self, is_cube_s, (h.cu c hc).cube])]
  simp -dsimp only [execs, exec, ev, evs, evO, evIf, evIt, List.map_cons, List.map_nil, thawM_dat, thaw_un, thaw_nil, thaw_sl, rep_0, rep_1, rep_2, rep_3, rep_4, rep_5, rep_6, rep_7, rep_8, rep_9, rep_10, rep_11, rep_12, rep_13, rep_14,
    List.append_nil, List.cons_append, List.nil_append, List.getElem?_cons_zero, List.getElem?_cons_succ, List.set_cons_zero, List.set_cons_succ, slotD, R.bnd_ok, R.bind_err, truth_bool, R.to_ok, R.to_err, then_next, then_ret, then_err, then_brk, res_ret, res_next, res_err, R.guard_true, R.clm_ok, fresh,
    isi_int_int, isi_int_bool, isi_int_str, isi_int_tuple, isi_int_list, isi_str_int, isi_str_bool, isi_str_str, isi_str_tuple, isi_str_list, isi_tuple_tuple, isi_tuple_str, isi_tuple_list, isi_list_list, isi_list_tuple, Bool.not_true, Bool.not_false,
    cmp_lt_int, cmp_gt_int, cmp_le_int, cmp_ge_int, cmp_eq_int, cmp_ne_int, cmp_lt_str, cmp_gt_str, cmp_eq_str, cmp_ne_str, cmp_in_sign, cmp_notin_sign, cmp_isnot_bool, cmp_is_bool, cmp_eq_bool, cmp_ne_bool,
    blt_len_list, blt_len_tuple, blt_len_str, items_list, items_tuple, items_str, seqItems_list, seqItems_tuple, seqItems_str, asInt_int, bindT_1, bindT_2, bindT_3, sub_tuple_0, sub_tuple_1, sub_list_0, bin_add_int, bin_sub_int, slice_list, slice_tuple, slice_str, unpack_1, unpack_2, unpack_3, thaw_no, X.has, hass, hasO, It.has, thawM_own, Nat.reduceBEq, Nat.reduceAdd, Bool.or_false, Bool.false_or, Bool.or_true, Bool.true_or, Bool.or_self, blt_all]
  rw [show (cs.all fun _ => true) = true from List.all_eq_true.mpr fun _ _ => rfl]
  simp -dsimp only [execs, exec, ev, evs, evO, evIf, evIt, List.map_cons, List.map_nil, thawM_dat, thaw_un, thaw_nil, thaw_sl, rep_0, rep_1, rep_2, rep_3, rep_4, rep_5, rep_6, rep_7, rep_8, rep_9, rep_10, rep_11, rep_12, rep_13, rep_14,
    List.append_nil, List.cons_append, List.nil_append, List.getElem?_cons_zero, List.getElem?_cons_succ, List.set_cons_zero, List.set_cons_succ, slotD, R.bnd_ok, R.bind_err, truth_bool, R.to_ok, R.to_err, then_next, then_ret, then_err, then_brk, res_ret, res_next, res_err, R.guard_true, R.clm_ok, fresh,
    isi_int_int, isi_int_bool, isi_int_str, isi_int_tuple, isi_int_list, isi_str_int, isi_str_bool, isi_str_str, isi_str_tuple, isi_str_list, isi_tuple_tuple, isi_tuple_str, isi_tuple_list, isi_list_list, isi_list_tuple, Bool.not_true, Bool.not_false,
    cmp_lt_int, cmp_gt_int, cmp_le_int, cmp_ge_int, cmp_eq_int, cmp_ne_int, cmp_lt_str, cmp_gt_str, cmp_eq_str, cmp_ne_str, cmp_in_sign, cmp_notin_sign, cmp_isnot_bool, cmp_is_bool, cmp_eq_bool, cmp_ne_bool,
    blt_len_list, blt_len_tuple, blt_len_str, items_list, items_tuple, items_str, seqItems_list, seqItems_tuple, seqItems_str, asInt_int, bindT_1, bindT_2, bindT_3, sub_tuple_0, sub_tuple_1, sub_list_0, bin_add_int, bin_sub_int, slice_list, slice_tuple, slice_str, unpack_1, unpack_2, unpack_3, thaw_no, X.has, hass, hasO, It.has, thawM_own, Nat.reduceBEq, Nat.reduceAdd, Bool.or_false, Bool.false_or, Bool.or_true, Bool.true_or, Bool.or_self, are_twins_t h.tw]
theorem is_word_s {k : Nat} {l : W} : (fx prog (k + 2)).call f_is_word [.str l] = .ok (.bool (okStr l 1 6)) := by
  rw [call_at (df := d_is_word) rfl, runDf_eq rfl]
  simp -dsimp only [execs, exec, ev, evs, evO, evIf, evIt, List.map_cons, List.map_nil, thawM_dat, thaw_un, thaw_nil, thaw_sl, rep_0, rep_1, rep_2, rep_3, rep_4, rep_5, rep_6, rep_7, rep_8, rep_9, rep_10, rep_11, rep_12, rep_13, rep_14,
    List.append_nil, List.cons_append, List.nil_append, List.getElem?_cons_zero, List.getElem?_cons_succ, List.set_cons_zero, List.set_cons_succ, slotD, R.bnd_ok, R.bind_err, truth_bool, R.to_ok, R.to_err, then_next, then_ret, then_err, then_brk, res_ret, res_next, res_err, R.guard_true, R.clm_ok, fresh,
    isi_int_int, isi_int_bool, isi_int_str, isi_int_tuple, isi_int_list, isi_str_int, isi_str_bool, isi_str_str, isi_str_tuple, isi_str_list, isi_tuple_tuple, isi_tuple_str, isi_tuple_list, isi_list_list, isi_list_tuple, Bool.not_true, Bool.not_false,
    cmp_lt_int, cmp_gt_int, cmp_le_int, cmp_ge_int, cmp_eq_int, cmp_ne_int, cmp_lt_str, cmp_gt_str, cmp_eq_str, cmp_ne_str, cmp_in_sign, cmp_notin_sign, cmp_isnot_bool, cmp_is_bool, cmp_eq_bool, cmp_ne_bool,
    blt_len_list, blt_len_tuple, blt_len_str, items_list, items_tuple, items_str, seqItems_list, seqItems_tuple, seqItems_str, asInt_int, bindT_1, bindT_2, bindT_3, sub_tuple_0, sub_tuple_1, sub_list_0, bin_add_int, bin_sub_int, slice_list, slice_tuple, slice_str, unpack_1, unpack_2, unpack_3, thaw_no, X.has, hass, hasO, It.has, thawM_own, Nat.reduceBEq, Nat.reduceAdd, Bool.or_false, Bool.false_or, Bool.or_true, Bool.true_or, Bool.or_self, d_is_word, is_string_s]
theorem check_box_b {k : Nat} {cs : List W} {t : Tw} (h : OkB cs t) : (fx prog (k + 4)).call f_check_box [dBox cs t] = .ok .none := by
  rw [call_at (df := d_check_box) rfl, runDf_eq rfl]
  simp -dsimp only [execs, exec, ev, evs, evO, evIf, evIt, List.map_cons, List.map_nil, thawM_dat, thaw_un, thaw_nil, thaw_sl, rep_0, rep_1, rep_2, rep_3, rep_4, rep_5, rep_6, rep_7, rep_8, rep_9, rep_10, rep_11, rep_12, rep_13, rep_14,
    List.append_nil, List.cons_append, List.nil_append, List.getElem?_cons_zero, List.getElem?_cons_succ, List.set_cons_zero, List.set_cons_succ, slotD, R.bnd_ok, R.bind_err, truth_bool, R.to_ok, R.to_err, then_next, then_ret, then_err, then_brk, res_ret, res_next, res_err, R.guard_true, R.clm_ok, fresh,
    isi_int_int, isi_int_bool, isi_int_str, isi_int_tuple, isi_int_list, isi_str_int, isi_str_bool, isi_str_str, isi_str_tuple, isi_str_list, isi_tuple_tuple, isi_tuple_str, isi_tuple_list, isi_list_list, isi_list_tuple, Bool.not_true, Bool.not_false,
    cmp_lt_int, cmp_gt_int, cmp_le_int, cmp_ge_int, cmp_eq_int, cmp_ne_int, cmp_lt_str, cmp_gt_str, cmp_eq_str, cmp_ne_str, cmp_in_sign, cmp_notin_sign, cmp_isnot_bool, cmp_is_bool, cmp_eq_bool, cmp_ne_bool,
    blt_len_list, blt_len_tuple, blt_len_str, items_list, items_tuple, items_str, seqItems_list, seqItems_tuple, seqItems_str, asInt_int, bindT_1, bindT_2, bindT_3, sub_tuple_0, sub_tuple_1, sub_list_0, bin_add_int, bin_sub_int, slice_list, slice_tuple, slice_str, unpack_1, unpack_2, unpack_3, thaw_no, X.has, hass, hasO, It.has, thawM_own, Nat.reduceBEq, Nat.reduceAdd, Bool.or_false, Bool.false_or, Bool.or_true, Bool.true_or, Bool.or_self, d_check_box, is_box_b h]
theorem check_box_bad {k : Nat} {d : D} (h : (fx prog k).call f_is_box [d] = .ok (.bool false)) : (fx prog (k + 1)).call f_check_box [d] = .err 1 := by
  rw [call_at (df := d_check_box) rfl, runDf_eq rfl]
  simp -dsimp only [execs, exec, ev, evs, evO, evIf, evIt, List.map_cons, List.map_nil, thawM_dat, thaw_un, thaw_nil, thaw_sl, rep_0, rep_1, rep_2, rep_3, rep_4, rep_5, rep_6, rep_7, rep_8, rep_9, rep_10, rep_11, rep_12, rep_13, rep_14,
    List.append_nil, List.cons_append, List.nil_append, List.getElem?_cons_zero, List.getElem?_cons_succ, List.set_cons_zero, List.set_cons_succ, slotD, R.bnd_ok, R.bind_err, truth_bool, R.to_ok, R.to_err, then_next, then_ret, then_err, then_brk, res_ret, res_next, res_err, R.guard_true, R.clm_ok, fresh,
    isi_int_int, isi_int_bool, isi_int_str, isi_int_tuple, isi_int_list, isi_str_int, isi_str_bool, isi_str_str, isi_str_tuple, isi_str_list, isi_tuple_tuple, isi_tuple_str, isi_tuple_list, isi_list_list, isi_list_tuple, Bool.not_true, Bool.not_false,
    cmp_lt_int, cmp_gt_int, cmp_le_int, cmp_ge_int, cmp_eq_int, cmp_ne_int, cmp_lt_str, cmp_gt_str, cmp_eq_str, cmp_ne_str, cmp_in_sign, cmp_notin_sign, cmp_isnot_bool, cmp_is_bool, cmp_eq_bool, cmp_ne_bool,
    blt_len_list, blt_len_tuple, blt_len_str, items_list, items_tuple, items_str, seqItems_list, seqItems_tuple, seqItems_str, asInt_int, bindT_1, bindT_2, bindT_3, sub_tuple_0, sub_tuple_1, sub_list_0, bin_add_int, bin_sub_int, slice_list, slice_tuple, slice_str, unpack_1, unpack_2, unpack_3, thaw_no, X.has, hass, hasO, It.has, thawM_own, Nat.reduceBEq, Nat.reduceAdd, Bool.or_false, Bool.false_or, Bool.or_true, Bool.true_or, Bool.or_self, d_check_box, h]

theorem pw_has {p : Nat × Nat} {s : Nat} : (pw p).contains s = (decide (p.1 = s) || decide (p.2 = s)) := by
  unfold pw
  rw [Bool.eq_iff_iff, List.contains_iff_mem, Bool.or_eq_true, decide_eq_true_iff, decide_eq_true_iff]
  simp only [List.mem_cons, List.not_mem_nil, or_false]
  exact ⟨fun h => h.imp Eq.symm Eq.symm, fun h => h.imp Eq.symm Eq.symm⟩
theorem pw_drop {p : Nat × Nat} {s : Nat} (h : p.1 ≠ p.2) (hs : (pw p).contains s = true) : (pw p).filter (fun x => x != s) = [if p.1 = s then p.2 else p.1] := by
  rw [pw_has] at hs
  unfold pw
  by_cases h1 : p.1 = s
  · have h2 : p.2 ≠ s := fun e => h (h1.trans e.symm)
    simp [h1, h2]
  · have h2 : p.2 = s := by simpa [h1] using hs
    simp [h1, h2]
theorem twin_find {t : Tw} {s : Nat} : ∀ {t : Tw}, (∀ p ∈ t, p.1 ≠ p.2) → (match (t.filter fun p => (pw p).contains s) with | [] => twinOf t s = s | p :: _ => (pw p).filter (fun x => x != s) = [twinOf t s])
  | [], _ => rfl
  | p :: t, h => by
    rw [List.filter_cons]
    by_cases hp : (pw p).contains s = true
    · rw [if_pos hp]
      show (pw p).filter (fun x => x != s) = [twinOf (p :: t) s]
      rw [pw_drop (h p List.mem_cons_self) hp]
      rw [pw_has] at hp
      unfold twinOf
      by_cases h1 : p.1 = s
      · rw [if_pos h1, if_pos h1]
      · have h2 : p.2 = s := by simpa [h1] using hp
        rw [if_neg h1, if_neg h1, if_pos h2]
    · rw [if_neg hp]
      have ih := twin_find (s := s) (t := t) fun q hq => h q (List.mem_cons_of_mem _ hq)
      have e : twinOf (p :: t) s = twinOf t s := by
        rw [pw_has] at hp
        have h1 : ¬ p.1 = s := by intro e; simp [e] at hp
        have h2 : ¬ p.2 = s := by intro e; simp [e] at hp
        show (if p.1 = s then p.2 else if p.2 = s then p.1 else twinOf t s) = _
        rw [if_neg h1, if_neg h2]
      rw [e]
      exact ih
theorem twin_of_t {k : Nat} {t : Tw} {s : Nat} (h : ∀ p ∈ t, p.1 ≠ p.2) (hs : s ≠ 32) : (fx prog (k + 1)).call f_twin_of [dTw t, .str [s]] = .ok (.str [twinOf t s]) := by
  rw [call_at (df := d_twin_of) rfl, runDf_eq rfl]
  simp -dsimp only [execs, exec, ev, evs, evO, evIf, evIt, List.map_cons, List.map_nil, thawM_dat, thaw_un, thaw_nil, thaw_sl, rep_0, rep_1, rep_2, rep_3, rep_4, rep_5, rep_6, rep_7, rep_8, rep_9, rep_10, rep_11, rep_12, rep_13, rep_14,
    List.append_nil, List.cons_append, List.nil_append, List.getElem?_cons_zero, List.getElem?_cons_succ, List.set_cons_zero, List.set_cons_succ, slotD, R.bnd_ok, R.bind_err, truth_bool, R.to_ok, R.to_err, then_next, then_ret, then_err, then_brk, res_ret, res_next, res_err, R.guard_true, R.clm_ok, fresh,
    isi_int_int, isi_int_bool, isi_int_str, isi_int_tuple, isi_int_list, isi_str_int, isi_str_bool, isi_str_str, isi_str_tuple, isi_str_list, isi_tuple_tuple, isi_tuple_str, isi_tuple_list, isi_list_list, isi_list_tuple, Bool.not_true, Bool.not_false,
    cmp_lt_int, cmp_gt_int, cmp_le_int, cmp_ge_int, cmp_eq_int, cmp_ne_int, cmp_lt_str, cmp_gt_str, cmp_eq_str, cmp_ne_str, cmp_in_sign, cmp_notin_sign, cmp_isnot_bool, cmp_is_bool, cmp_eq_bool, cmp_ne_bool,
    blt_len_list, blt_len_tuple, blt_len_str, items_list, items_tuple, items_str, seqItems_list, seqItems_tuple, seqItems_str, asInt_int, bindT_1, bindT_2, bindT_3, sub_tuple_0, sub_tuple_1, sub_list_0, bin_add_int, bin_sub_int, slice_list, slice_tuple, slice_str, unpack_1, unpack_2, unpack_3, thaw_no, X.has, hass, hasO, It.has, thawM_own, Nat.reduceBEq, Nat.reduceAdd, Bool.or_false, Bool.false_or, Bool.or_true, Bool.true_or, Bool.or_self, d_twin_of, dTw]
  rw [filtR_map (p := fun p : Nat × Nat => (pw p).contains s) (g := fun p => D.str (pw p)) (fun p hp => by
    simp -dsimp only [execs, exec, ev, evs, evO, evIf, evIt, List.map_cons, List.map_nil, thawM_dat, thaw_un, thaw_nil, thaw_sl, rep_0, rep_1, rep_2, rep_3, rep_4, rep_5, rep_6, rep_7, rep_8, rep_9, rep_10, rep_11, rep_12, rep_13, rep_14,
    List.append_nil, List.cons_append, List.nil_append, List.getElem?_cons_zero, List.getElem?_cons_succ, List.set_cons_zero, List.set_cons_succ, slotD, R.bnd_ok, R.bind_err, truth_bool, R.to_ok, R.to_err, then_next, then_ret, then_err, then_brk, res_ret, res_next, res_err, R.guard_true, R.clm_ok, fresh,
    isi_int_int, isi_int_bool, isi_int_str, isi_int_tuple, isi_int_list, isi_str_int, isi_str_bool, isi_str_str, isi_str_tuple, isi_str_list, isi_tuple_tuple, isi_tuple_str, isi_tuple_list, isi_list_list, isi_list_tuple, Bool.not_true, Bool.not_false,
    cmp_lt_int, cmp_gt_int, cmp_le_int, cmp_ge_int, cmp_eq_int, cmp_ne_int, cmp_lt_str, cmp_gt_str, cmp_eq_str, cmp_ne_str, cmp_in_sign, cmp_notin_sign, cmp_isnot_bool, cmp_is_bool, cmp_eq_bool, cmp_ne_bool,
    blt_len_list, blt_len_tuple, blt_len_str, items_list, items_tuple, items_str, seqItems_list, seqItems_tuple, seqItems_str, asInt_int, bindT_1, bindT_2, bindT_3, sub_tuple_0, sub_tuple_1, sub_list_0, bin_add_int, bin_sub_int, slice_list, slice_tuple, slice_str, unpack_1, unpack_2, unpack_3, thaw_no, X.has, hass, hasO, It.has, thawM_own, Nat.reduceBEq, Nat.reduceAdd, Bool.or_false, Bool.false_or, Bool.or_true, Bool.true_or, Bool.or_self]
    cases (pw p).contains s <;> rfl)]
  have key := twin_find (s := s) (t := t) h
  cases e : (t.filter fun p => (pw p).contains s) with
  | nil =>
    rw [e] at key
    simp -dsimp only [execs, exec, ev, evs, evO, evIf, evIt, List.map_cons, List.map_nil, thawM_dat, thaw_un, thaw_nil, thaw_sl, rep_0, rep_1, rep_2, rep_3, rep_4, rep_5, rep_6, rep_7, rep_8, rep_9, rep_10, rep_11, rep_12, rep_13, rep_14,
    List.append_nil, List.cons_append, List.nil_append, List.getElem?_cons_zero, List.getElem?_cons_succ, List.set_cons_zero, List.set_cons_succ, slotD, R.bnd_ok, R.bind_err, truth_bool, R.to_ok, R.to_err, then_next, then_ret, then_err, then_brk, res_ret, res_next, res_err, R.guard_true, R.clm_ok, fresh,
    isi_int_int, isi_int_bool, isi_int_str, isi_int_tuple, isi_int_list, isi_str_int, isi_str_bool, isi_str_str, isi_str_tuple, isi_str_list, isi_tuple_tuple, isi_tuple_str, isi_tuple_list, isi_list_list, isi_list_tuple, Bool.not_true, Bool.not_false,
    cmp_lt_int, cmp_gt_int, cmp_le_int, cmp_ge_int, cmp_eq_int, cmp_ne_int, cmp_lt_str, cmp_gt_str, cmp_eq_str, cmp_ne_str, cmp_in_sign, cmp_notin_sign, cmp_isnot_bool, cmp_is_bool, cmp_eq_bool, cmp_ne_bool,
    blt_len_list, blt_len_tuple, blt_len_str, items_list, items_tuple, items_str, seqItems_list, seqItems_tuple, seqItems_str, asInt_int, bindT_1, bindT_2, bindT_3, sub_tuple_0, sub_tuple_1, sub_list_0, bin_add_int, bin_sub_int, slice_list, slice_tuple, slice_str, unpack_1, unpack_2, unpack_3, thaw_no, X.has, hass, hasO, It.has, thawM_own, Nat.reduceBEq, Nat.reduceAdd, Bool.or_false, Bool.false_or, Bool.or_true, Bool.true_or, Bool.or_self, after, scalar]
    have e2 : cmpD .eq (.list []) (.list []) = .ok true := rfl
    simp -dsimp only [execs, exec, ev, evs, evO, evIf, evIt, List.map_cons, List.map_nil, thawM_dat, thaw_un, thaw_nil, thaw_sl, rep_0, rep_1, rep_2, rep_3, rep_4, rep_5, rep_6, rep_7, rep_8, rep_9, rep_10, rep_11, rep_12, rep_13, rep_14,
    List.append_nil, List.cons_append, List.nil_append, List.getElem?_cons_zero, List.getElem?_cons_succ, List.set_cons_zero, List.set_cons_succ, slotD, R.bnd_ok, R.bind_err, truth_bool, R.to_ok, R.to_err, then_next, then_ret, then_err, then_brk, res_ret, res_next, res_err, R.guard_true, R.clm_ok, fresh,
    isi_int_int, isi_int_bool, isi_int_str, isi_int_tuple, isi_int_list, isi_str_int, isi_str_bool, isi_str_str, isi_str_tuple, isi_str_list, isi_tuple_tuple, isi_tuple_str, isi_tuple_list, isi_list_list, isi_list_tuple, Bool.not_true, Bool.not_false,
    cmp_lt_int, cmp_gt_int, cmp_le_int, cmp_ge_int, cmp_eq_int, cmp_ne_int, cmp_lt_str, cmp_gt_str, cmp_eq_str, cmp_ne_str, cmp_in_sign, cmp_notin_sign, cmp_isnot_bool, cmp_is_bool, cmp_eq_bool, cmp_ne_bool,
    blt_len_list, blt_len_tuple, blt_len_str, items_list, items_tuple, items_str, seqItems_list, seqItems_tuple, seqItems_str, asInt_int, bindT_1, bindT_2, bindT_3, sub_tuple_0, sub_tuple_1, sub_list_0, bin_add_int, bin_sub_int, slice_list, slice_tuple, slice_str, unpack_1, unpack_2, unpack_3, thaw_no, X.has, hass, hasO, It.has, thawM_own, Nat.reduceBEq, Nat.reduceAdd, Bool.or_false, Bool.false_or, Bool.or_true, Bool.true_or, Bool.or_self, e2]
    rw [show twinOf t s = s from key]
  | cons p r =>
    rw [e] at key
    have e2 : cmpD .eq (.list (D.str (pw p) :: r.map fun p => D.str (pw p))) (.list []) = .ok false := by
      refine cmp_eq_ok ((eqD_ok ?_ rfl).trans ?_)
      · rw [shp_list]
        exact shp_all (n := 59) (e := fun p : Nat × Nat => D.str (pw p)) (fun _ => shp_str) (p :: r)
      · rw [eqB_list]
        rfl
    have e3 : replD (.str (pw p)) (.str [s]) = .ok (.str [twinOf t s]) := by
      show R.guard (s != 32 && true) (R.ok (D.str ((pw p).filter fun x => x != s))) = _
      rw [key, show (s != 32) = true from by simpa using hs]
      rfl
    simp -dsimp only [execs, exec, ev, evs, evO, evIf, evIt, List.map_cons, List.map_nil, thawM_dat, thaw_un, thaw_nil, thaw_sl, rep_0, rep_1, rep_2, rep_3, rep_4, rep_5, rep_6, rep_7, rep_8, rep_9, rep_10, rep_11, rep_12, rep_13, rep_14,
    List.append_nil, List.cons_append, List.nil_append, List.getElem?_cons_zero, List.getElem?_cons_succ, List.set_cons_zero, List.set_cons_succ, slotD, R.bnd_ok, R.bind_err, truth_bool, R.to_ok, R.to_err, then_next, then_ret, then_err, then_brk, res_ret, res_next, res_err, R.guard_true, R.clm_ok, fresh,
    isi_int_int, isi_int_bool, isi_int_str, isi_int_tuple, isi_int_list, isi_str_int, isi_str_bool, isi_str_str, isi_str_tuple, isi_str_list, isi_tuple_tuple, isi_tuple_str, isi_tuple_list, isi_list_list, isi_list_tuple, Bool.not_true, Bool.not_false,
    cmp_lt_int, cmp_gt_int, cmp_le_int, cmp_ge_int, cmp_eq_int, cmp_ne_int, cmp_lt_str, cmp_gt_str, cmp_eq_str, cmp_ne_str, cmp_in_sign, cmp_notin_sign, cmp_isnot_bool, cmp_is_bool, cmp_eq_bool, cmp_ne_bool,
    blt_len_list, blt_len_tuple, blt_len_str, items_list, items_tuple, items_str, seqItems_list, seqItems_tuple, seqItems_str, asInt_int, bindT_1, bindT_2, bindT_3, sub_tuple_0, sub_tuple_1, sub_list_0, bin_add_int, bin_sub_int, slice_list, slice_tuple, slice_str, unpack_1, unpack_2, unpack_3, thaw_no, X.has, hass, hasO, It.has, thawM_own, Nat.reduceBEq, Nat.reduceAdd, Bool.or_false, Bool.false_or, Bool.or_true, Bool.true_or, Bool.or_self, after, scalar, e2, isStr, e3]
theorem okT_ne {t : Tw} (h : OkT t) : ∀ p ∈ t, p.1 ≠ p.2 := fun p hp => Nat.ne_of_lt (h.lt p hp)
theorem does_show_t {k : Nat} {t : Tw} {c : W} {s : Nat} (h : ∀ p ∈ t, p.1 ≠ p.2) (hs : s ≠ 32) : (fx prog (k + 2)).call f_does_show [.str c, dTw t, .str [s]] = .ok (.bool (shows c t s)) := by
  rw [call_at (df := d_does_show) rfl, runDf_eq rfl]
  simp -dsimp only [execs, exec, ev, evs, evO, evIf, evIt, List.map_cons, List.map_nil, thawM_dat, thaw_un, thaw_nil, thaw_sl, rep_0, rep_1, rep_2, rep_3, rep_4, rep_5, rep_6, rep_7, rep_8, rep_9, rep_10, rep_11, rep_12, rep_13, rep_14,
    List.append_nil, List.cons_append, List.nil_append, List.getElem?_cons_zero, List.getElem?_cons_succ, List.set_cons_zero, List.set_cons_succ, slotD, R.bnd_ok, R.bind_err, truth_bool, R.to_ok, R.to_err, then_next, then_ret, then_err, then_brk, res_ret, res_next, res_err, R.guard_true, R.clm_ok, fresh,
    isi_int_int, isi_int_bool, isi_int_str, isi_int_tuple, isi_int_list, isi_str_int, isi_str_bool, isi_str_str, isi_str_tuple, isi_str_list, isi_tuple_tuple, isi_tuple_str, isi_tuple_list, isi_list_list, isi_list_tuple, Bool.not_true, Bool.not_false,
    cmp_lt_int, cmp_gt_int, cmp_le_int, cmp_ge_int, cmp_eq_int, cmp_ne_int, cmp_lt_str, cmp_gt_str, cmp_eq_str, cmp_ne_str, cmp_in_sign, cmp_notin_sign, cmp_isnot_bool, cmp_is_bool, cmp_eq_bool, cmp_ne_bool,
    blt_len_list, blt_len_tuple, blt_len_str, items_list, items_tuple, items_str, seqItems_list, seqItems_tuple, seqItems_str, asInt_int, bindT_1, bindT_2, bindT_3, sub_tuple_0, sub_tuple_1, sub_list_0, bin_add_int, bin_sub_int, slice_list, slice_tuple, slice_str, unpack_1, unpack_2, unpack_3, thaw_no, X.has, hass, hasO, It.has, thawM_own, Nat.reduceBEq, Nat.reduceAdd, Bool.or_false, Bool.false_or, Bool.or_true, Bool.true_or, Bool.or_self, d_does_show, twin_of_t h hs]
  unfold shows
  cases c.contains s <;> rfl
theorem find_cubes_t {k : Nat} {t : Tw} {cs : List W} {s : Nat} (h : ∀ p ∈ t, p.1 ≠ p.2) (hs : s ≠ 32) : (fx prog (k + 3)).call f_find_cubes [dBox cs t, .str [s]] = .ok (.list ((findCubes cs t s).map fun n => .int (n : Nat))) := by
  rw [call_at (df := d_find_cubes) rfl, runDf_eq rfl]
  simp -dsimp only [execs, exec, ev, evs, evO, evIf, evIt, List.map_cons, List.map_nil, thawM_dat, thaw_un, thaw_nil, thaw_sl, rep_0, rep_1, rep_2, rep_3, rep_4, rep_5, rep_6, rep_7, rep_8, rep_9, rep_10, rep_11, rep_12, rep_13, rep_14,
    List.append_nil, List.cons_append, List.nil_append, List.getElem?_cons_zero, List.getElem?_cons_succ, List.set_cons_zero, List.set_cons_succ, slotD, R.bnd_ok, R.bind_err, truth_bool, R.to_ok, R.to_err, then_next, then_ret, then_err, then_brk, res_ret, res_next, res_err, R.guard_true, R.clm_ok, fresh,
    isi_int_int, isi_int_bool, isi_int_str, isi_int_tuple, isi_int_list, isi_str_int, isi_str_bool, isi_str_str, isi_str_tuple, isi_str_list, isi_tuple_tuple, isi_tuple_str, isi_tuple_list, isi_list_list, isi_list_tuple, Bool.not_true, Bool.not_false,
    cmp_lt_int, cmp_gt_int, cmp_le_int, cmp_ge_int, cmp_eq_int, cmp_ne_int, cmp_lt_str, cmp_gt_str, cmp_eq_str, cmp_ne_str, cmp_in_sign, cmp_notin_sign, cmp_isnot_bool, cmp_is_bool, cmp_eq_bool, cmp_ne_bool,
    blt_len_list, blt_len_tuple, blt_len_str, items_list, items_tuple, items_str, seqItems_list, seqItems_tuple, seqItems_str, asInt_int, bindT_1, bindT_2, bindT_3, sub_tuple_0, sub_tuple_1, sub_list_0, bin_add_int, bin_sub_int, slice_list, slice_tuple, slice_str, unpack_1, unpack_2, unpack_3, thaw_no, X.has, hass, hasO, It.has, thawM_own, Nat.reduceBEq, Nat.reduceAdd, Bool.or_false, Bool.false_or, Bool.or_true, Bool.true_or, Bool.or_self, d_find_cubes, dBox, dTs, enumD_map]
  rw [filtR_map (p := fun p : W × Nat => shows p.1 t s) (g := fun p => D.int (p.2 : Nat)) (fun p hp => by
    simp -dsimp only [execs, exec, ev, evs, evO, evIf, evIt, List.map_cons, List.map_nil, thawM_dat, thaw_un, thaw_nil, thaw_sl, rep_0, rep_1, rep_2, rep_3, rep_4, rep_5, rep_6, rep_7, rep_8, rep_9, rep_10, rep_11, rep_12, rep_13, rep_14,
    List.append_nil, List.cons_append, List.nil_append, List.getElem?_cons_zero, List.getElem?_cons_succ, List.set_cons_zero, List.set_cons_succ, slotD, R.bnd_ok, R.bind_err, truth_bool, R.to_ok, R.to_err, then_next, then_ret, then_err, then_brk, res_ret, res_next, res_err, R.guard_true, R.clm_ok, fresh,
    isi_int_int, isi_int_bool, isi_int_str, isi_int_tuple, isi_int_list, isi_str_int, isi_str_bool, isi_str_str, isi_str_tuple, isi_str_list, isi_tuple_tuple, isi_tuple_str, isi_tuple_list, isi_list_list, isi_list_tuple, Bool.not_true, Bool.not_false,
    cmp_lt_int, cmp_gt_int, cmp_le_int, cmp_ge_int, cmp_eq_int, cmp_ne_int, cmp_lt_str, cmp_gt_str, cmp_eq_str, cmp_ne_str, cmp_in_sign, cmp_notin_sign, cmp_isnot_bool, cmp_is_bool, cmp_eq_bool, cmp_ne_bool,
    blt_len_list, blt_len_tuple, blt_len_str, items_list, items_tuple, items_str, seqItems_list, seqItems_tuple, seqItems_str, asInt_int, bindT_1, bindT_2, bindT_3, sub_tuple_0, sub_tuple_1, sub_list_0, bin_add_int, bin_sub_int, slice_list, slice_tuple, slice_str, unpack_1, unpack_2, unpack_3, thaw_no, X.has, hass, hasO, It.has, thawM_own, Nat.reduceBEq, Nat.reduceAdd, Bool.or_false, Bool.false_or, Bool.or_true, Bool.true_or, Bool.or_self, does_show_t h hs]
    cases shows p.1 t s <;> rfl)]
  simp -dsimp only [execs, exec, ev, evs, evO, evIf, evIt, List.map_cons, List.map_nil, thawM_dat, thaw_un, thaw_nil, thaw_sl, rep_0, rep_1, rep_2, rep_3, rep_4, rep_5, rep_6, rep_7, rep_8, rep_9, rep_10, rep_11, rep_12, rep_13, rep_14,
    List.append_nil, List.cons_append, List.nil_append, List.getElem?_cons_zero, List.getElem?_cons_succ, List.set_cons_zero, List.set_cons_succ, slotD, R.bnd_ok, R.bind_err, truth_bool, R.to_ok, R.to_err, then_next, then_ret, then_err, then_brk, res_ret, res_next, res_err, R.guard_true, R.clm_ok, fresh,
    isi_int_int, isi_int_bool, isi_int_str, isi_int_tuple, isi_int_list, isi_str_int, isi_str_bool, isi_str_str, isi_str_tuple, isi_str_list, isi_tuple_tuple, isi_tuple_str, isi_tuple_list, isi_list_list, isi_list_tuple, Bool.not_true, Bool.not_false,
    cmp_lt_int, cmp_gt_int, cmp_le_int, cmp_ge_int, cmp_eq_int, cmp_ne_int, cmp_lt_str, cmp_gt_str, cmp_eq_str, cmp_ne_str, cmp_in_sign, cmp_notin_sign, cmp_isnot_bool, cmp_is_bool, cmp_eq_bool, cmp_ne_bool,
    blt_len_list, blt_len_tuple, blt_len_str, items_list, items_tuple, items_str, seqItems_list, seqItems_tuple, seqItems_str, asInt_int, bindT_1, bindT_2, bindT_3, sub_tuple_0, sub_tuple_1, sub_list_0, bin_add_int, bin_sub_int, slice_list, slice_tuple, slice_str, unpack_1, unpack_2, unpack_3, thaw_no, X.has, hass, hasO, It.has, thawM_own, Nat.reduceBEq, Nat.reduceAdd, Bool.or_false, Bool.false_or, Bool.or_true, Bool.true_or, Bool.or_self]
  unfold findCubes
  rw [List.map_map]
  rfl
theorem ints_ne_nil (l : List Nat) : cmpD .ne (.list (l.map fun n => D.int (n : Nat))) (.list []) = .ok (!l.isEmpty) := by
  refine (cmp_ne_ok (t := l.isEmpty) ((eqD_ok ?_ rfl).trans ?_))
  · rw [shp_list]
    exact shp_all (n := 59) (e := fun n : Nat => D.int (n : Nat)) (fun _ => shp_int) l
  · rw [eqB_list]
    cases l <;> rfl
def shownSigns (cs : List W) (t : Tw) : List Nat := SIGNS.filter fun s => !(findCubes cs t s).isEmpty
theorem sign_ne {s : Nat} (h : s ∈ SIGNS) : s ≠ 32 := by
  intro e
  subst e
  exact absurd h (by decide)
theorem shown_signs_t {k : Nat} {t : Tw} {cs : List W} (h : ∀ p ∈ t, p.1 ≠ p.2) : (fx prog (k + 4)).call f_shown_signs [dBox cs t] = .ok (.list ((shownSigns cs t).map fun c => .str [c])) := by
  rw [call_at (df := d_shown_signs) rfl, runDf_eq rfl]
  have e0 : items (.str [48, 49, 50, 51, 52, 53, 54, 55, 56, 57, 97, 98, 99, 100, 101, 102, 103, 104, 105, 106, 107, 108, 109, 110, 111, 112, 113, 114, 115, 116, 117, 118, 119, 120, 121, 122]) = .ok (SIGNS.map fun c => D.str [c]) := rfl
  simp -dsimp only [execs, exec, ev, evs, evO, evIf, evIt, List.map_cons, List.map_nil, thawM_dat, thaw_un, thaw_nil, thaw_sl, rep_0, rep_1, rep_2, rep_3, rep_4, rep_5, rep_6, rep_7, rep_8, rep_9, rep_10, rep_11, rep_12, rep_13, rep_14,
    List.append_nil, List.cons_append, List.nil_append, List.getElem?_cons_zero, List.getElem?_cons_succ, List.set_cons_zero, List.set_cons_succ, slotD, R.bnd_ok, R.bind_err, truth_bool, R.to_ok, R.to_err, then_next, then_ret, then_err, then_brk, res_ret, res_next, res_err, R.guard_true, R.clm_ok, fresh,
    isi_int_int, isi_int_bool, isi_int_str, isi_int_tuple, isi_int_list, isi_str_int, isi_str_bool, isi_str_str, isi_str_tuple, isi_str_list, isi_tuple_tuple, isi_tuple_str, isi_tuple_list, isi_list_list, isi_list_tuple, Bool.not_true, Bool.not_false,
    cmp_lt_int, cmp_gt_int, cmp_le_int, cmp_ge_int, cmp_eq_int, cmp_ne_int, cmp_lt_str, cmp_gt_str, cmp_eq_str, cmp_ne_str, cmp_in_sign, cmp_notin_sign, cmp_isnot_bool, cmp_is_bool, cmp_eq_bool, cmp_ne_bool,
    blt_len_list, blt_len_tuple, blt_len_str, items_list, items_tuple, items_str, seqItems_list, seqItems_tuple, seqItems_str, asInt_int, bindT_1, bindT_2, bindT_3, sub_tuple_0, sub_tuple_1, sub_list_0, bin_add_int, bin_sub_int, slice_list, slice_tuple, slice_str, unpack_1, unpack_2, unpack_3, thaw_no, X.has, hass, hasO, It.has, thawM_own, Nat.reduceBEq, Nat.reduceAdd, Bool.or_false, Bool.false_or, Bool.or_true, Bool.true_or, Bool.or_self, d_shown_signs, e0]
  rw [show ([48, 49, 50, 51, 52, 53, 54, 55, 56, 57, 97, 98, 99, 100, 101, 102, 103, 104, 105, 106, 107, 108, 109, 110, 111, 112, 113, 114, 115, 116, 117, 118, 119, 120, 121, 122] : List Nat) = SIGNS from rfl] at *
  rw [filtR_map (p := fun s : Nat => !(findCubes cs t s).isEmpty) (g := fun c => D.str [c]) (fun s hs => by
    simp -dsimp only [execs, exec, ev, evs, evO, evIf, evIt, List.map_cons, List.map_nil, thawM_dat, thaw_un, thaw_nil, thaw_sl, rep_0, rep_1, rep_2, rep_3, rep_4, rep_5, rep_6, rep_7, rep_8, rep_9, rep_10, rep_11, rep_12, rep_13, rep_14,
    List.append_nil, List.cons_append, List.nil_append, List.getElem?_cons_zero, List.getElem?_cons_succ, List.set_cons_zero, List.set_cons_succ, slotD, R.bnd_ok, R.bind_err, truth_bool, R.to_ok, R.to_err, then_next, then_ret, then_err, then_brk, res_ret, res_next, res_err, R.guard_true, R.clm_ok, fresh,
    isi_int_int, isi_int_bool, isi_int_str, isi_int_tuple, isi_int_list, isi_str_int, isi_str_bool, isi_str_str, isi_str_tuple, isi_str_list, isi_tuple_tuple, isi_tuple_str, isi_tuple_list, isi_list_list, isi_list_tuple, Bool.not_true, Bool.not_false,
    cmp_lt_int, cmp_gt_int, cmp_le_int, cmp_ge_int, cmp_eq_int, cmp_ne_int, cmp_lt_str, cmp_gt_str, cmp_eq_str, cmp_ne_str, cmp_in_sign, cmp_notin_sign, cmp_isnot_bool, cmp_is_bool, cmp_eq_bool, cmp_ne_bool,
    blt_len_list, blt_len_tuple, blt_len_str, items_list, items_tuple, items_str, seqItems_list, seqItems_tuple, seqItems_str, asInt_int, bindT_1, bindT_2, bindT_3, sub_tuple_0, sub_tuple_1, sub_list_0, bin_add_int, bin_sub_int, slice_list, slice_tuple, slice_str, unpack_1, unpack_2, unpack_3, thaw_no, X.has, hass, hasO, It.has, thawM_own, Nat.reduceBEq, Nat.reduceAdd, Bool.or_false, Bool.false_or, Bool.or_true, Bool.true_or, Bool.or_self, find_cubes_t h (sign_ne hs), ints_ne_nil]
    cases (findCubes cs t s).isEmpty <;> rfl)]
  rfl
def signsOf (c : W) (t : Tw) : List Nat := SIGNS.filter fun s => shows c t s
theorem signs_of_t {k : Nat} {t : Tw} {cs : List W} {n : Nat} {c : W} (h : OkB cs t) (hn : cs[n]? = some c) : (fx prog (k + 5)).call f_signs_of [dBox cs t, .int (n : Nat)] = .ok (.list ((signsOf c t).map fun c => D.str [c])) := by
  rw [call_at (df := d_signs_of) rfl, runDf_eq rfl]
  have hlt : n < cs.length := (List.getElem?_eq_some_iff.mp hn).1
  have e1 : decide ((0 : Int) ≤ (n : Int)) = true := decide_eq_true (Int.natCast_nonneg n)
  have e2 : decide ((n : Int) ≤ (cs.length : Int) - 1) = true := decide_eq_true (by omega)
  have e3 : subD (.tuple (cs.map D.str)) (.int (n : Int)) = .ok (.str c) := by rw [sub_tuple_n, List.getElem?_map, hn]; rfl
  have e0 : items (.str [48, 49, 50, 51, 52, 53, 54, 55, 56, 57, 97, 98, 99, 100, 101, 102, 103, 104, 105, 106, 107, 108, 109, 110, 111, 112, 113, 114, 115, 116, 117, 118, 119, 120, 121, 122]) = .ok (SIGNS.map fun c => D.str [c]) := rfl
  have e4 := check_box_b (k := k) h
  unfold dBox dTs at e4
  simp -dsimp only [execs, exec, ev, evs, evO, evIf, evIt, List.map_cons, List.map_nil, thawM_dat, thaw_un, thaw_nil, thaw_sl, rep_0, rep_1, rep_2, rep_3, rep_4, rep_5, rep_6, rep_7, rep_8, rep_9, rep_10, rep_11, rep_12, rep_13, rep_14,
    List.append_nil, List.cons_append, List.nil_append, List.getElem?_cons_zero, List.getElem?_cons_succ, List.set_cons_zero, List.set_cons_succ, slotD, R.bnd_ok, R.bind_err, truth_bool, R.to_ok, R.to_err, then_next, then_ret, then_err, then_brk, res_ret, res_next, res_err, R.guard_true, R.clm_ok, fresh,
    isi_int_int, isi_int_bool, isi_int_str, isi_int_tuple, isi_int_list, isi_str_int, isi_str_bool, isi_str_str, isi_str_tuple, isi_str_list, isi_tuple_tuple, isi_tuple_str, isi_tuple_list, isi_list_list, isi_list_tuple, Bool.not_true, Bool.not_false,
    cmp_lt_int, cmp_gt_int, cmp_le_int, cmp_ge_int, cmp_eq_int, cmp_ne_int, cmp_lt_str, cmp_gt_str, cmp_eq_str, cmp_ne_str, cmp_in_sign, cmp_notin_sign, cmp_isnot_bool, cmp_is_bool, cmp_eq_bool, cmp_ne_bool,
    blt_len_list, blt_len_tuple, blt_len_str, items_list, items_tuple, items_str, seqItems_list, seqItems_tuple, seqItems_str, asInt_int, bindT_1, bindT_2, bindT_3, sub_tuple_0, sub_tuple_1, sub_list_0, bin_add_int, bin_sub_int, slice_list, slice_tuple, slice_str, unpack_1, unpack_2, unpack_3, thaw_no, X.has, hass, hasO, It.has, thawM_own, Nat.reduceBEq, Nat.reduceAdd, Bool.or_false, Bool.false_or, Bool.or_true, Bool.true_or, Bool.or_self, d_signs_of, dBox, dTs, e4, List.length_map, is_int_i, e1, e2, e0, Bool.and_self]
  rw [show ([48, 49, 50, 51, 52, 53, 54, 55, 56, 57, 97, 98, 99, 100, 101, 102, 103, 104, 105, 106, 107, 108, 109, 110, 111, 112, 113, 114, 115, 116, 117, 118, 119, 120, 121, 122] : List Nat) = SIGNS from rfl] at *
  rw [filtR_map (p := fun s : Nat => shows c t s) (g := fun c => D.str [c]) (fun s hs => by
    simp -dsimp only [execs, exec, ev, evs, evO, evIf, evIt, List.map_cons, List.map_nil, thawM_dat, thaw_un, thaw_nil, thaw_sl, rep_0, rep_1, rep_2, rep_3, rep_4, rep_5, rep_6, rep_7, rep_8, rep_9, rep_10, rep_11, rep_12, rep_13, rep_14,
    List.append_nil, List.cons_append, List.nil_append, List.getElem?_cons_zero, List.getElem?_cons_succ, List.set_cons_zero, List.set_cons_succ, slotD, R.bnd_ok, R.bind_err, truth_bool, R.to_ok, R.to_err, then_next, then_ret, then_err, then_brk, res_ret, res_next, res_err, R.guard_true, R.clm_ok, fresh,
    isi_int_int, isi_int_bool, isi_int_str, isi_int_tuple, isi_int_list, isi_str_int, isi_str_bool, isi_str_str, isi_str_tuple, isi_str_list, isi_tuple_tuple, isi_tuple_str, isi_tuple_list, isi_list_list, isi_list_tuple, Bool.not_true, Bool.not_false,
    cmp_lt_int, cmp_gt_int, cmp_le_int, cmp_ge_int, cmp_eq_int, cmp_ne_int, cmp_lt_str, cmp_gt_str, cmp_eq_str, cmp_ne_str, cmp_in_sign, cmp_notin_sign, cmp_isnot_bool, cmp_is_bool, cmp_eq_bool, cmp_ne_bool,
    blt_len_list, blt_len_tuple, blt_len_str, items_list, items_tuple, items_str, seqItems_list, seqItems_tuple, seqItems_str, asInt_int, bindT_1, bindT_2, bindT_3, sub_tuple_0, sub_tuple_1, sub_list_0, bin_add_int, bin_sub_int, slice_list, slice_tuple, slice_str, unpack_1, unpack_2, unpack_3, thaw_no, X.has, hass, hasO, It.has, thawM_own, Nat.reduceBEq, Nat.reduceAdd, Bool.or_false, Bool.false_or, Bool.or_true, Bool.true_or, Bool.or_self, e3, does_show_t (okT_ne h.tw) (sign_ne hs)]
    cases shows c t s <;> rfl)]
  rfl
theorem signs_of_bad {k : Nat} {d : D} {n : D} (h : (fx prog k).call f_is_box [d] = .ok (.bool false)) : (fx prog (k + 2)).call f_signs_of [d, n] = .err 1 := by
  rw [call_at (df := d_signs_of) rfl, runDf_eq rfl]
  simp -dsimp only [execs, exec, ev, evs, evO, evIf, evIt, List.map_cons, List.map_nil, thawM_dat, thaw_un, thaw_nil, thaw_sl, rep_0, rep_1, rep_2, rep_3, rep_4, rep_5, rep_6, rep_7, rep_8, rep_9, rep_10, rep_11, rep_12, rep_13, rep_14,
    List.append_nil, List.cons_append, List.nil_append, List.getElem?_cons_zero, List.getElem?_cons_succ, List.set_cons_zero, List.set_cons_succ, slotD, R.bnd_ok, R.bind_err, truth_bool, R.to_ok, R.to_err, then_next, then_ret, then_err, then_brk, res_ret, res_next, res_err, R.guard_true, R.clm_ok, fresh,
    isi_int_int, isi_int_bool, isi_int_str, isi_int_tuple, isi_int_list, isi_str_int, isi_str_bool, isi_str_str, isi_str_tuple, isi_str_list, isi_tuple_tuple, isi_tuple_str, isi_tuple_list, isi_list_list, isi_list_tuple, Bool.not_true, Bool.not_false,
    cmp_lt_int, cmp_gt_int, cmp_le_int, cmp_ge_int, cmp_eq_int, cmp_ne_int, cmp_lt_str, cmp_gt_str, cmp_eq_str, cmp_ne_str, cmp_in_sign, cmp_notin_sign, cmp_isnot_bool, cmp_is_bool, cmp_eq_bool, cmp_ne_bool,
    blt_len_list, blt_len_tuple, blt_len_str, items_list, items_tuple, items_str, seqItems_list, seqItems_tuple, seqItems_str, asInt_int, bindT_1, bindT_2, bindT_3, sub_tuple_0, sub_tuple_1, sub_list_0, bin_add_int, bin_sub_int, slice_list, slice_tuple, slice_str, unpack_1, unpack_2, unpack_3, thaw_no, X.has, hass, hasO, It.has, thawM_own, Nat.reduceBEq, Nat.reduceAdd, Bool.or_false, Bool.false_or, Bool.or_true, Bool.true_or, Bool.or_self, d_signs_of, check_box_bad h]
theorem signs_of_num {k : Nat} {t : Tw} {cs : List W} {n : D} (h : OkB cs t) (hn : (fx prog (k + 4)).call f_is_int [n, .int 0, .int ((cs.length : Int) - 1)] = .ok (.bool false)) : (fx prog (k + 5)).call f_signs_of [dBox cs t, n] = .err 2 := by
  rw [call_at (df := d_signs_of) rfl, runDf_eq rfl]
  have e4 := check_box_b (k := k) h
  unfold dBox dTs at e4
  simp -dsimp only [execs, exec, ev, evs, evO, evIf, evIt, List.map_cons, List.map_nil, thawM_dat, thaw_un, thaw_nil, thaw_sl, rep_0, rep_1, rep_2, rep_3, rep_4, rep_5, rep_6, rep_7, rep_8, rep_9, rep_10, rep_11, rep_12, rep_13, rep_14,
    List.append_nil, List.cons_append, List.nil_append, List.getElem?_cons_zero, List.getElem?_cons_succ, List.set_cons_zero, List.set_cons_succ, slotD, R.bnd_ok, R.bind_err, truth_bool, R.to_ok, R.to_err, then_next, then_ret, then_err, then_brk, res_ret, res_next, res_err, R.guard_true, R.clm_ok, fresh,
    isi_int_int, isi_int_bool, isi_int_str, isi_int_tuple, isi_int_list, isi_str_int, isi_str_bool, isi_str_str, isi_str_tuple, isi_str_list, isi_tuple_tuple, isi_tuple_str, isi_tuple_list, isi_list_list, isi_list_tuple, Bool.not_true, Bool.not_false,
    cmp_lt_int, cmp_gt_int, cmp_le_int, cmp_ge_int, cmp_eq_int, cmp_ne_int, cmp_lt_str, cmp_gt_str, cmp_eq_str, cmp_ne_str, cmp_in_sign, cmp_notin_sign, cmp_isnot_bool, cmp_is_bool, cmp_eq_bool, cmp_ne_bool,
    blt_len_list, blt_len_tuple, blt_len_str, items_list, items_tuple, items_str, seqItems_list, seqItems_tuple, seqItems_str, asInt_int, bindT_1, bindT_2, bindT_3, sub_tuple_0, sub_tuple_1, sub_list_0, bin_add_int, bin_sub_int, slice_list, slice_tuple, slice_str, unpack_1, unpack_2, unpack_3, thaw_no, X.has, hass, hasO, It.has, thawM_own, Nat.reduceBEq, Nat.reduceAdd, Bool.or_false, Bool.false_or, Bool.or_true, Bool.true_or, Bool.or_self, d_signs_of, dBox, dTs, e4, List.length_map, hn]
theorem is_sign_s {k : Nat} {c : Nat} : (fx prog (k + 1)).call f_is_sign [.str [c]] = .ok (.bool (okSign c)) := rfl
theorem cubes_with_t {k : Nat} {t : Tw} {cs : List W} {s : Nat} (h : OkB cs t) (hs : s ∈ SIGNS) : (fx prog (k + 5)).call f_cubes_with [dBox cs t, .str [s]] = .ok (.list ((findCubes cs t s).map fun n => .int (n : Nat))) := by
  rw [call_at (df := d_cubes_with) rfl, runDf_eq rfl]
  have e1 : okSign s = true := List.contains_iff_mem.mpr hs
  simp -dsimp only [execs, exec, ev, evs, evO, evIf, evIt, List.map_cons, List.map_nil, thawM_dat, thaw_un, thaw_nil, thaw_sl, rep_0, rep_1, rep_2, rep_3, rep_4, rep_5, rep_6, rep_7, rep_8, rep_9, rep_10, rep_11, rep_12, rep_13, rep_14,
    List.append_nil, List.cons_append, List.nil_append, List.getElem?_cons_zero, List.getElem?_cons_succ, List.set_cons_zero, List.set_cons_succ, slotD, R.bnd_ok, R.bind_err, truth_bool, R.to_ok, R.to_err, then_next, then_ret, then_err, then_brk, res_ret, res_next, res_err, R.guard_true, R.clm_ok, fresh,
    isi_int_int, isi_int_bool, isi_int_str, isi_int_tuple, isi_int_list, isi_str_int, isi_str_bool, isi_str_str, isi_str_tuple, isi_str_list, isi_tuple_tuple, isi_tuple_str, isi_tuple_list, isi_list_list, isi_list_tuple, Bool.not_true, Bool.not_false,
    cmp_lt_int, cmp_gt_int, cmp_le_int, cmp_ge_int, cmp_eq_int, cmp_ne_int, cmp_lt_str, cmp_gt_str, cmp_eq_str, cmp_ne_str, cmp_in_sign, cmp_notin_sign, cmp_isnot_bool, cmp_is_bool, cmp_eq_bool, cmp_ne_bool,
    blt_len_list, blt_len_tuple, blt_len_str, items_list, items_tuple, items_str, seqItems_list, seqItems_tuple, seqItems_str, asInt_int, bindT_1, bindT_2, bindT_3, sub_tuple_0, sub_tuple_1, sub_list_0, bin_add_int, bin_sub_int, slice_list, slice_tuple, slice_str, unpack_1, unpack_2, unpack_3, thaw_no, X.has, hass, hasO, It.has, thawM_own, Nat.reduceBEq, Nat.reduceAdd, Bool.or_false, Bool.false_or, Bool.or_true, Bool.true_or, Bool.or_self, d_cubes_with, check_box_b h, is_sign_s, e1, find_cubes_t (okT_ne h.tw) (sign_ne hs)]
theorem cubes_with_bad {k : Nat} {d : D} {n : D} (h : (fx prog k).call f_is_box [d] = .ok (.bool false)) : (fx prog (k + 2)).call f_cubes_with [d, n] = .err 1 := by
  rw [call_at (df := d_cubes_with) rfl, runDf_eq rfl]
  simp -dsimp only [execs, exec, ev, evs, evO, evIf, evIt, List.map_cons, List.map_nil, thawM_dat, thaw_un, thaw_nil, thaw_sl, rep_0, rep_1, rep_2, rep_3, rep_4, rep_5, rep_6, rep_7, rep_8, rep_9, rep_10, rep_11, rep_12, rep_13, rep_14,
    List.append_nil, List.cons_append, List.nil_append, List.getElem?_cons_zero, List.getElem?_cons_succ, List.set_cons_zero, List.set_cons_succ, slotD, R.bnd_ok, R.bind_err, truth_bool, R.to_ok, R.to_err, then_next, then_ret, then_err, then_brk, res_ret, res_next, res_err, R.guard_true, R.clm_ok, fresh,
    isi_int_int, isi_int_bool, isi_int_str, isi_int_tuple, isi_int_list, isi_str_int, isi_str_bool, isi_str_str, isi_str_tuple, isi_str_list, isi_tuple_tuple, isi_tuple_str, isi_tuple_list, isi_list_list, isi_list_tuple, Bool.not_true, Bool.not_false,
    cmp_lt_int, cmp_gt_int, cmp_le_int, cmp_ge_int, cmp_eq_int, cmp_ne_int, cmp_lt_str, cmp_gt_str, cmp_eq_str, cmp_ne_str, cmp_in_sign, cmp_notin_sign, cmp_isnot_bool, cmp_is_bool, cmp_eq_bool, cmp_ne_bool,
    blt_len_list, blt_len_tuple, blt_len_str, items_list, items_tuple, items_str, seqItems_list, seqItems_tuple, seqItems_str, asInt_int, bindT_1, bindT_2, bindT_3, sub_tuple_0, sub_tuple_1, sub_list_0, bin_add_int, bin_sub_int, slice_list, slice_tuple, slice_str, unpack_1, unpack_2, unpack_3, thaw_no, X.has, hass, hasO, It.has, thawM_own, Nat.reduceBEq, Nat.reduceAdd, Bool.or_false, Bool.false_or, Bool.or_true, Bool.true_or, Bool.or_self, d_cubes_with, check_box_bad h]
theorem cubes_with_sign {k : Nat} {t : Tw} {cs : List W} {n : D} (h : OkB cs t) (hn : (fx prog (k + 4)).call f_is_sign [n] = .ok (.bool false)) : (fx prog (k + 5)).call f_cubes_with [dBox cs t, n] = .err 3 := by
  rw [call_at (df := d_cubes_with) rfl, runDf_eq rfl]
  simp -dsimp only [execs, exec, ev, evs, evO, evIf, evIt, List.map_cons, List.map_nil, thawM_dat, thaw_un, thaw_nil, thaw_sl, rep_0, rep_1, rep_2, rep_3, rep_4, rep_5, rep_6, rep_7, rep_8, rep_9, rep_10, rep_11, rep_12, rep_13, rep_14,
    List.append_nil, List.cons_append, List.nil_append, List.getElem?_cons_zero, List.getElem?_cons_succ, List.set_cons_zero, List.set_cons_succ, slotD, R.bnd_ok, R.bind_err, truth_bool, R.to_ok, R.to_err, then_next, then_ret, then_err, then_brk, res_ret, res_next, res_err, R.guard_true, R.clm_ok, fresh,
    isi_int_int, isi_int_bool, isi_int_str, isi_int_tuple, isi_int_list, isi_str_int, isi_str_bool, isi_str_str, isi_str_tuple, isi_str_list, isi_tuple_tuple, isi_tuple_str, isi_tuple_list, isi_list_list, isi_list_tuple, Bool.not_true, Bool.not_false,
    cmp_lt_int, cmp_gt_int, cmp_le_int, cmp_ge_int, cmp_eq_int, cmp_ne_int, cmp_lt_str, cmp_gt_str, cmp_eq_str, cmp_ne_str, cmp_in_sign, cmp_notin_sign, cmp_isnot_bool, cmp_is_bool, cmp_eq_bool, cmp_ne_bool,
    blt_len_list, blt_len_tuple, blt_len_str, items_list, items_tuple, items_str, seqItems_list, seqItems_tuple, seqItems_str, asInt_int, bindT_1, bindT_2, bindT_3, sub_tuple_0, sub_tuple_1, sub_list_0, bin_add_int, bin_sub_int, slice_list, slice_tuple, slice_str, unpack_1, unpack_2, unpack_3, thaw_no, X.has, hass, hasO, It.has, thawM_own, Nat.reduceBEq, Nat.reduceAdd, Bool.or_false, Bool.false_or, Bool.or_true, Bool.true_or, Bool.or_self, d_cubes_with, check_box_b h, hn]
theorem all_signs_t {k : Nat} {t : Tw} {cs : List W} (h : OkB cs t) : (fx prog (k + 5)).call f_all_signs [dBox cs t] = .ok (.list ((shownSigns cs t).map fun c => D.str [c])) := by
  rw [call_at (df := d_all_signs) rfl, runDf_eq rfl]
  simp -dsimp only [execs, exec, ev, evs, evO, evIf, evIt, List.map_cons, List.map_nil, thawM_dat, thaw_un, thaw_nil, thaw_sl, rep_0, rep_1, rep_2, rep_3, rep_4, rep_5, rep_6, rep_7, rep_8, rep_9, rep_10, rep_11, rep_12, rep_13, rep_14,
    List.append_nil, List.cons_append, List.nil_append, List.getElem?_cons_zero, List.getElem?_cons_succ, List.set_cons_zero, List.set_cons_succ, slotD, R.bnd_ok, R.bind_err, truth_bool, R.to_ok, R.to_err, then_next, then_ret, then_err, then_brk, res_ret, res_next, res_err, R.guard_true, R.clm_ok, fresh,
    isi_int_int, isi_int_bool, isi_int_str, isi_int_tuple, isi_int_list, isi_str_int, isi_str_bool, isi_str_str, isi_str_tuple, isi_str_list, isi_tuple_tuple, isi_tuple_str, isi_tuple_list, isi_list_list, isi_list_tuple, Bool.not_true, Bool.not_false,
    cmp_lt_int, cmp_gt_int, cmp_le_int, cmp_ge_int, cmp_eq_int, cmp_ne_int, cmp_lt_str, cmp_gt_str, cmp_eq_str, cmp_ne_str, cmp_in_sign, cmp_notin_sign, cmp_isnot_bool, cmp_is_bool, cmp_eq_bool, cmp_ne_bool,
    blt_len_list, blt_len_tuple, blt_len_str, items_list, items_tuple, items_str, seqItems_list, seqItems_tuple, seqItems_str, asInt_int, bindT_1, bindT_2, bindT_3, sub_tuple_0, sub_tuple_1, sub_list_0, bin_add_int, bin_sub_int, slice_list, slice_tuple, slice_str, unpack_1, unpack_2, unpack_3, thaw_no, X.has, hass, hasO, It.has, thawM_own, Nat.reduceBEq, Nat.reduceAdd, Bool.or_false, Bool.false_or, Bool.or_true, Bool.true_or, Bool.or_self, d_all_signs, check_box_b h, shown_signs_t (okT_ne h.tw)]
theorem all_signs_bad {k : Nat} {d : D} (h : (fx prog k).call f_is_box [d] = .ok (.bool false)) : (fx prog (k + 2)).call f_all_signs [d] = .err 1 := by
  rw [call_at (df := d_all_signs) rfl, runDf_eq rfl]
  simp -dsimp only [execs, exec, ev, evs, evO, evIf, evIt, List.map_cons, List.map_nil, thawM_dat, thaw_un, thaw_nil, thaw_sl, rep_0, rep_1, rep_2, rep_3, rep_4, rep_5, rep_6, rep_7, rep_8, rep_9, rep_10, rep_11, rep_12, rep_13, rep_14,
    List.append_nil, List.cons_append, List.nil_append, List.getElem?_cons_zero, List.getElem?_cons_succ, List.set_cons_zero, List.set_cons_succ, slotD, R.bnd_ok, R.bind_err, truth_bool, R.to_ok, R.to_err, then_next, then_ret, then_err, then_brk, res_ret, res_next, res_err, R.guard_true, R.clm_ok, fresh,
    isi_int_int, isi_int_bool, isi_int_str, isi_int_tuple, isi_int_list, isi_str_int, isi_str_bool, isi_str_str, isi_str_tuple, isi_str_list, isi_tuple_tuple, isi_tuple_str, isi_tuple_list, isi_list_list, isi_list_tuple, Bool.not_true, Bool.not_false,
    cmp_lt_int, cmp_gt_int, cmp_le_int, cmp_ge_int, cmp_eq_int, cmp_ne_int, cmp_lt_str, cmp_gt_str, cmp_eq_str, cmp_ne_str, cmp_in_sign, cmp_notin_sign, cmp_isnot_bool, cmp_is_bool, cmp_eq_bool, cmp_ne_bool,
    blt_len_list, blt_len_tuple, blt_len_str, items_list, items_tuple, items_str, seqItems_list, seqItems_tuple, seqItems_str, asInt_int, bindT_1, bindT_2, bindT_3, sub_tuple_0, sub_tuple_1, sub_list_0, bin_add_int, bin_sub_int, slice_list, slice_tuple, slice_str, unpack_1, unpack_2, unpack_3, thaw_no, X.has, hass, hasO, It.has, thawM_own, Nat.reduceBEq, Nat.reduceAdd, Bool.or_false, Bool.false_or, Bool.or_true, Bool.true_or, Bool.or_self, d_all_signs, check_box_bad h]

def restA : Nat → Int → Int
  | 0, r => r
  | t + 1, r => if 0 < r then restA t (r / 1000000) else r
def drawnE (c : Int) (k many : Nat) : Int :=
  let c1 := (c % 2147483563 * 69069 + 104723 * ((k : Int) + 1)) % 2147483563
  let c2 := (c1 * c1 + c1 / 3) % 2147483399
  (c2 * c2 + c2 / 7) % 2147483647 / 11 % many
def drawnI (ns : List Int) (k many : Nat) : Int :=
  match ns[k % ns.length]? with
  | none => drawnE (7 * k) k many
  | some c => if (10 : Int) ^ 18 ≤ c ∧ k / ns.length < 60 ∧ 0 < restA (k / ns.length) (c / 10 ^ 18) then restA (k / ns.length) (c / 10 ^ 18) % 1000000 % many else drawnE (c + 6553 * ((k / ns.length : Nat) : Int)) k many
def drawn (ns : List Int) (k many : Nat) : Nat := (drawnI ns k many).toNat
theorem emod_b {a : Int} {m : Nat} (h : 0 < m) : 0 ≤ a % (m : Int) ∧ a % (m : Int) < m := ⟨Int.emod_nonneg _ (by omega), Int.emod_lt_of_pos _ (by omega)⟩
theorem drawnI_b {ns : List Int} {k many : Nat} (h : 0 < many) : 0 ≤ drawnI ns k many ∧ drawnI ns k many < many := by
  unfold drawnI
  split
  · exact emod_b h
  · split
    · exact emod_b h
    · exact emod_b h
theorem drawn_lt {ns : List Int} {k many : Nat} (h : 0 < many) : drawn ns k many < many := by
  have := drawnI_b (ns := ns) (k := k) h
  unfold drawn
  omega
theorem drawn_eq {ns : List Int} {k many : Nat} (h : 0 < many) : ((drawn ns k many : Nat) : Int) = drawnI ns k many := Int.toNat_of_nonneg (drawnI_b h).1
theorem small_ok {a : Int} (h1 : -(2 ^ 64) < a) (h2 : a < 2 ^ 64) : small a = true := decide_eq_true ⟨h1, h2⟩
theorem mul_l {a b : Int} (h1 : -(2 ^ 64) < a) (h2 : a < 2 ^ 64) : binD .mul (.int a) (.int b) = .ok (.int (a * b)) := by
  show R.guard (small a || small b) _ = _
  rw [small_ok h1 h2]
  rfl
theorem mod_p {a b : Int} (h : 0 < b) : binD .mod (.int a) (.int b) = .ok (.int (a % b)) := by
  show R.guard (decide (0 < b)) _ = _
  rw [decide_eq_true h]
  rfl
theorem fdiv_p {a b : Int} (h : 0 < b) (h2 : b < 2 ^ 64) : binD .fdiv (.int a) (.int b) = .ok (.int (a / b)) := by
  show R.guard (decide (0 < b ∧ b < 2 ^ 64)) _ = _
  rw [decide_eq_true ⟨h, h2⟩]
  rfl
theorem cell_b {a : Int} {m : Int} (h : 0 < m) (h2 : m < 2 ^ 64) : -(2 ^ 64) < a % m ∧ a % m < 2 ^ 64 := by
  have h1 := Int.emod_nonneg a (show m ≠ 0 by omega)
  have h3 := Int.emod_lt_of_pos a h
  omega
theorem script_ne {ns : List Int} : cmpD .ne (.list (ns.map D.int)) (.list []) = .ok (!ns.isEmpty) := by
  refine (cmp_ne_ok (t := ns.isEmpty) ((eqD_ok ?_ rfl).trans ?_))
  · rw [shp_list]
    exact shp_all (n := 59) (e := D.int) (fun _ => shp_int) ns
  · rw [eqB_list]
    cases ns <;> rfl
theorem drawn_fin {F : Fx} {d : D} {c : Int} {k many : Nat} {x4 x5 : Option D} (h : 0 < many) :
    execs F [.asg 3 (.bin .mod (.bin .add (.bin .mul (.bin .mod (.var 3) (.con (.int 2147483563))) (.con (.int 69069))) (.bin .mul (.con (.int 104723)) (.bin .add (.var 1) (.con (.int 1))))) (.con (.int 2147483563))),
    .asg 3 (.bin .mod (.bin .add (.bin .mul (.var 3) (.var 3)) (.bin .fdiv (.var 3) (.con (.int 3)))) (.con (.int 2147483399))),
    .ret (.bin .mod (.bin .fdiv (.bin .mod (.bin .add (.bin .mul (.var 3) (.var 3)) (.bin .fdiv (.var 3) (.con (.int 7)))) (.con (.int 2147483647))) (.con (.int 11))) (.var 2))] [.dat d, .dat (.int (k : Nat)), .dat (.int (many : Nat)), .dat (.int c), sl x4, sl x5] = .ret (.int (drawnE c k many)) := by
  have m1 : ∀ a : Int, binD .mod (.int a) (.int 2147483563) = .ok (.int (a % 2147483563)) := fun a => mod_p (by decide)
  have m2 : ∀ a : Int, binD .mod (.int a) (.int 2147483399) = .ok (.int (a % 2147483399)) := fun a => mod_p (by decide)
  have m3 : ∀ a : Int, binD .mod (.int a) (.int 2147483647) = .ok (.int (a % 2147483647)) := fun a => mod_p (by decide)
  have d1 : ∀ a : Int, binD .fdiv (.int a) (.int 3) = .ok (.int (a / 3)) := fun a => fdiv_p (by decide) (by decide)
  have d2 : ∀ a : Int, binD .fdiv (.int a) (.int 7) = .ok (.int (a / 7)) := fun a => fdiv_p (by decide) (by decide)
  have d3 : ∀ a : Int, binD .fdiv (.int a) (.int 11) = .ok (.int (a / 11)) := fun a => fdiv_p (by decide) (by decide)
  have l1 : ∀ a : Int, binD .mul (.int 104723) (.int a) = .ok (.int (104723 * a)) := fun a => mul_l (by decide) (by decide)
  have l2 : ∀ a b : Int, binD .mul (.int (a % 2147483563)) (.int b) = .ok (.int (a % 2147483563 * b)) := fun a b => mul_l (cell_b (by decide) (by decide)).1 (cell_b (by decide) (by decide)).2
  have l3 : ∀ a b : Int, binD .mul (.int (a % 2147483399)) (.int b) = .ok (.int (a % 2147483399 * b)) := fun a b => mul_l (cell_b (by decide) (by decide)).1 (cell_b (by decide) (by decide)).2
  have mm : ∀ a : Int, binD .mod (.int a) (.int (many : Nat)) = .ok (.int (a % (many : Int))) := fun a => mod_p (by omega)
  simp -dsimp only [execs, exec, ev, evs, evO, evIf, evIt, List.map_cons, List.map_nil, thawM_dat, thaw_un, thaw_nil, thaw_sl, rep_0, rep_1, rep_2, rep_3, rep_4, rep_5, rep_6, rep_7, rep_8, rep_9, rep_10, rep_11, rep_12, rep_13, rep_14,
    List.append_nil, List.cons_append, List.nil_append, List.getElem?_cons_zero, List.getElem?_cons_succ, List.set_cons_zero, List.set_cons_succ, slotD, R.bnd_ok, R.bind_err, truth_bool, R.to_ok, R.to_err, then_next, then_ret, then_err, then_brk, res_ret, res_next, res_err, R.guard_true, R.clm_ok, fresh,
    isi_int_int, isi_int_bool, isi_int_str, isi_int_tuple, isi_int_list, isi_str_int, isi_str_bool, isi_str_str, isi_str_tuple, isi_str_list, isi_tuple_tuple, isi_tuple_str, isi_tuple_list, isi_list_list, isi_list_tuple, Bool.not_true, Bool.not_false,
    cmp_lt_int, cmp_gt_int, cmp_le_int, cmp_ge_int, cmp_eq_int, cmp_ne_int, cmp_lt_str, cmp_gt_str, cmp_eq_str, cmp_ne_str, cmp_in_sign, cmp_notin_sign, cmp_isnot_bool, cmp_is_bool, cmp_eq_bool, cmp_ne_bool,
    blt_len_list, blt_len_tuple, blt_len_str, items_list, items_tuple, items_str, seqItems_list, seqItems_tuple, seqItems_str, asInt_int, bindT_1, bindT_2, bindT_3, sub_tuple_0, sub_tuple_1, sub_list_0, bin_add_int, bin_sub_int, slice_list, slice_tuple, slice_str, unpack_1, unpack_2, unpack_3, thaw_no, X.has, hass, hasO, It.has, thawM_own, Nat.reduceBEq, Nat.reduceAdd, Bool.or_false, Bool.false_or, Bool.or_true, Bool.true_or, Bool.or_self, m1, m2, m3, d1, d2, d3, l1, l2, l3, mm, after, scalar]
  rfl
theorem drawn_loop {F : Fx} {d c : D} {k many : Nat} : ∀ (t n : Nat) (r : Int), t ≤ n → ∃ x : D, whileO (fun ρ => (ev F (thaw (fun i => X.has i (.and_ (.cmp .gt (.var 5) (.con (.int 0))) (.cmp .gt (.var 4) (.con (.int 0))))) 0 ρ) (.and_ (.cmp .gt (.var 5) (.con (.int 0))) (.cmp .gt (.var 4) (.con (.int 0))))).bind truth)
      (execs F [.asg 5 (.bin .fdiv (.var 5) (.con (.int 1000000))), .asg 4 (.bin .sub (.var 4) (.con (.int 1)))]) (n + 1) [.dat d, .dat (.int (k : Nat)), .dat (.int (many : Nat)), .dat c, .dat (.int (t : Nat)), .dat (.int r)] =
      .next [.dat d, .dat (.int (k : Nat)), .dat (.int (many : Nat)), .dat c, .dat x, .dat (.int (restA t r))]
  | 0, n, r, _ => by
    refine ⟨_, whileO_done ?_⟩
    simp -dsimp only [execs, exec, ev, evs, evO, evIf, evIt, List.map_cons, List.map_nil, thawM_dat, thaw_un, thaw_nil, thaw_sl, rep_0, rep_1, rep_2, rep_3, rep_4, rep_5, rep_6, rep_7, rep_8, rep_9, rep_10, rep_11, rep_12, rep_13, rep_14,
    List.append_nil, List.cons_append, List.nil_append, List.getElem?_cons_zero, List.getElem?_cons_succ, List.set_cons_zero, List.set_cons_succ, slotD, R.bnd_ok, R.bind_err, truth_bool, R.to_ok, R.to_err, then_next, then_ret, then_err, then_brk, res_ret, res_next, res_err, R.guard_true, R.clm_ok, fresh,
    isi_int_int, isi_int_bool, isi_int_str, isi_int_tuple, isi_int_list, isi_str_int, isi_str_bool, isi_str_str, isi_str_tuple, isi_str_list, isi_tuple_tuple, isi_tuple_str, isi_tuple_list, isi_list_list, isi_list_tuple, Bool.not_true, Bool.not_false,
    cmp_lt_int, cmp_gt_int, cmp_le_int, cmp_ge_int, cmp_eq_int, cmp_ne_int, cmp_lt_str, cmp_gt_str, cmp_eq_str, cmp_ne_str, cmp_in_sign, cmp_notin_sign, cmp_isnot_bool, cmp_is_bool, cmp_eq_bool, cmp_ne_bool,
    blt_len_list, blt_len_tuple, blt_len_str, items_list, items_tuple, items_str, seqItems_list, seqItems_tuple, seqItems_str, asInt_int, bindT_1, bindT_2, bindT_3, sub_tuple_0, sub_tuple_1, sub_list_0, bin_add_int, bin_sub_int, slice_list, slice_tuple, slice_str, unpack_1, unpack_2, unpack_3, thaw_no, X.has, hass, hasO, It.has, thawM_own, Nat.reduceBEq, Nat.reduceAdd, Bool.or_false, Bool.false_or, Bool.or_true, Bool.true_or, Bool.or_self]
    cases decide (0 < r) <;> rfl
  | t + 1, n, r, hn => by
    by_cases hr : 0 < r
    · obtain ⟨n, rfl⟩ : ∃ m, n = m + 1 := ⟨n - 1, by omega⟩
      obtain ⟨x, e⟩ := drawn_loop (F := F) (d := d) (c := c) (k := k) (many := many) t n (r / 1000000) (by omega)
      refine ⟨x, ?_⟩
      have d1 : ∀ a : Int, binD .fdiv (.int a) (.int 1000000) = .ok (.int (a / 1000000)) := fun a => fdiv_p (by decide) (by decide)
      have e2 : (((t + 1 : Nat) : Int) - 1) = (t : Nat) := by omega
      rw [whileO_step (ρ' := [.dat d, .dat (.int (k : Nat)), .dat (.int (many : Nat)), .dat c, .dat (.int (t : Nat)), .dat (.int (r / 1000000))])]
      · rw [e]
        show _ = O.next [_, _, _, _, _, .dat (.int (if 0 < r then restA t (r / 1000000) else r))]
        rw [if_pos hr]
      · have h1 : decide (0 < r) = true := decide_eq_true hr
        have h2 : decide (0 < ((t + 1 : Nat) : Int)) = true := decide_eq_true (by omega)
        simp -dsimp only [execs, exec, ev, evs, evO, evIf, evIt, List.map_cons, List.map_nil, thawM_dat, thaw_un, thaw_nil, thaw_sl, rep_0, rep_1, rep_2, rep_3, rep_4, rep_5, rep_6, rep_7, rep_8, rep_9, rep_10, rep_11, rep_12, rep_13, rep_14,
    List.append_nil, List.cons_append, List.nil_append, List.getElem?_cons_zero, List.getElem?_cons_succ, List.set_cons_zero, List.set_cons_succ, slotD, R.bnd_ok, R.bind_err, truth_bool, R.to_ok, R.to_err, then_next, then_ret, then_err, then_brk, res_ret, res_next, res_err, R.guard_true, R.clm_ok, fresh,
    isi_int_int, isi_int_bool, isi_int_str, isi_int_tuple, isi_int_list, isi_str_int, isi_str_bool, isi_str_str, isi_str_tuple, isi_str_list, isi_tuple_tuple, isi_tuple_str, isi_tuple_list, isi_list_list, isi_list_tuple, Bool.not_true, Bool.not_false,
    cmp_lt_int, cmp_gt_int, cmp_le_int, cmp_ge_int, cmp_eq_int, cmp_ne_int, cmp_lt_str, cmp_gt_str, cmp_eq_str, cmp_ne_str, cmp_in_sign, cmp_notin_sign, cmp_isnot_bool, cmp_is_bool, cmp_eq_bool, cmp_ne_bool,
    blt_len_list, blt_len_tuple, blt_len_str, items_list, items_tuple, items_str, seqItems_list, seqItems_tuple, seqItems_str, asInt_int, bindT_1, bindT_2, bindT_3, sub_tuple_0, sub_tuple_1, sub_list_0, bin_add_int, bin_sub_int, slice_list, slice_tuple, slice_str, unpack_1, unpack_2, unpack_3, thaw_no, X.has, hass, hasO, It.has, thawM_own, Nat.reduceBEq, Nat.reduceAdd, Bool.or_false, Bool.false_or, Bool.or_true, Bool.true_or, Bool.or_self, h1, h2]
      · simp -dsimp only [execs, exec, ev, evs, evO, evIf, evIt, List.map_cons, List.map_nil, thawM_dat, thaw_un, thaw_nil, thaw_sl, rep_0, rep_1, rep_2, rep_3, rep_4, rep_5, rep_6, rep_7, rep_8, rep_9, rep_10, rep_11, rep_12, rep_13, rep_14,
    List.append_nil, List.cons_append, List.nil_append, List.getElem?_cons_zero, List.getElem?_cons_succ, List.set_cons_zero, List.set_cons_succ, slotD, R.bnd_ok, R.bind_err, truth_bool, R.to_ok, R.to_err, then_next, then_ret, then_err, then_brk, res_ret, res_next, res_err, R.guard_true, R.clm_ok, fresh,
    isi_int_int, isi_int_bool, isi_int_str, isi_int_tuple, isi_int_list, isi_str_int, isi_str_bool, isi_str_str, isi_str_tuple, isi_str_list, isi_tuple_tuple, isi_tuple_str, isi_tuple_list, isi_list_list, isi_list_tuple, Bool.not_true, Bool.not_false,
    cmp_lt_int, cmp_gt_int, cmp_le_int, cmp_ge_int, cmp_eq_int, cmp_ne_int, cmp_lt_str, cmp_gt_str, cmp_eq_str, cmp_ne_str, cmp_in_sign, cmp_notin_sign, cmp_isnot_bool, cmp_is_bool, cmp_eq_bool, cmp_ne_bool,
    blt_len_list, blt_len_tuple, blt_len_str, items_list, items_tuple, items_str, seqItems_list, seqItems_tuple, seqItems_str, asInt_int, bindT_1, bindT_2, bindT_3, sub_tuple_0, sub_tuple_1, sub_list_0, bin_add_int, bin_sub_int, slice_list, slice_tuple, slice_str, unpack_1, unpack_2, unpack_3, thaw_no, X.has, hass, hasO, It.has, thawM_own, Nat.reduceBEq, Nat.reduceAdd, Bool.or_false, Bool.false_or, Bool.or_true, Bool.true_or, Bool.or_self, d1, after, scalar, e2]
    · refine ⟨.int ((t + 1 : Nat) : Int), (whileO_done ?_).trans ?_⟩
      · have h1 : decide (0 < r) = false := decide_eq_false hr
        simp -dsimp only [execs, exec, ev, evs, evO, evIf, evIt, List.map_cons, List.map_nil, thawM_dat, thaw_un, thaw_nil, thaw_sl, rep_0, rep_1, rep_2, rep_3, rep_4, rep_5, rep_6, rep_7, rep_8, rep_9, rep_10, rep_11, rep_12, rep_13, rep_14,
    List.append_nil, List.cons_append, List.nil_append, List.getElem?_cons_zero, List.getElem?_cons_succ, List.set_cons_zero, List.set_cons_succ, slotD, R.bnd_ok, R.bind_err, truth_bool, R.to_ok, R.to_err, then_next, then_ret, then_err, then_brk, res_ret, res_next, res_err, R.guard_true, R.clm_ok, fresh,
    isi_int_int, isi_int_bool, isi_int_str, isi_int_tuple, isi_int_list, isi_str_int, isi_str_bool, isi_str_str, isi_str_tuple, isi_str_list, isi_tuple_tuple, isi_tuple_str, isi_tuple_list, isi_list_list, isi_list_tuple, Bool.not_true, Bool.not_false,
    cmp_lt_int, cmp_gt_int, cmp_le_int, cmp_ge_int, cmp_eq_int, cmp_ne_int, cmp_lt_str, cmp_gt_str, cmp_eq_str, cmp_ne_str, cmp_in_sign, cmp_notin_sign, cmp_isnot_bool, cmp_is_bool, cmp_eq_bool, cmp_ne_bool,
    blt_len_list, blt_len_tuple, blt_len_str, items_list, items_tuple, items_str, seqItems_list, seqItems_tuple, seqItems_str, asInt_int, bindT_1, bindT_2, bindT_3, sub_tuple_0, sub_tuple_1, sub_list_0, bin_add_int, bin_sub_int, slice_list, slice_tuple, slice_str, unpack_1, unpack_2, unpack_3, thaw_no, X.has, hass, hasO, It.has, thawM_own, Nat.reduceBEq, Nat.reduceAdd, Bool.or_false, Bool.false_or, Bool.or_true, Bool.true_or, Bool.or_self, h1]
      · show _ = O.next [_, _, _, _, _, .dat (.int (if 0 < r then restA t (r / 1000000) else r))]
        rw [if_neg hr]
theorem drawn_ev {kk : Nat} {ns : List Int} {k many : Nat} (h : 0 < many) (hl : ns.length ≤ 1000) : (fx prog (kk + 1)).call f__law_drawn [.list (ns.map D.int), .int (k : Nat), .int (many : Nat)] = .ok (.int (drawn ns k many : Nat)) := by
  rw [call_at (df := d__law_drawn) rfl, runDf_eq rfl, drawn_eq h]
  have l0 : ∀ a : Int, binD .mul (.int 7) (.int a) = .ok (.int (7 * a)) := fun a => mul_l (by decide) (by decide)
  have l1 : ∀ a : Int, binD .mul (.int 6553) (.int a) = .ok (.int (6553 * a)) := fun a => mul_l (by decide) (by decide)
  have pw : binD .pow (.int 10) (.int 18) = .ok (.int (10 ^ 18)) := rfl
  have d18 : ∀ a : Int, binD .fdiv (.int a) (.int (10 ^ 18)) = .ok (.int (a / 10 ^ 18)) := fun a => fdiv_p (by decide) (by decide)
  have mm : ∀ a : Int, binD .mod (.int a) (.int (many : Nat)) = .ok (.int (a % (many : Int))) := fun a => mod_p (by omega)
  have m6 : ∀ a : Int, binD .mod (.int a) (.int 1000000) = .ok (.int (a % 1000000)) := fun a => mod_p (by decide)
  unfold d__law_drawn
  dsimp only
  rw [execs_next (ρ' := [.dat (.list (ns.map D.int)), .dat (.int (k : Nat)), .dat (.int (many : Nat)), .dat (.int (7 * (k : Int))), .un, .un]) (by simp -dsimp only [execs, exec, ev, evs, evO, evIf, evIt, List.map_cons, List.map_nil, thawM_dat, thaw_un, thaw_nil, thaw_sl, rep_0, rep_1, rep_2, rep_3, rep_4, rep_5, rep_6, rep_7, rep_8, rep_9, rep_10, rep_11, rep_12, rep_13, rep_14,
    List.append_nil, List.cons_append, List.nil_append, List.getElem?_cons_zero, List.getElem?_cons_succ, List.set_cons_zero, List.set_cons_succ, slotD, R.bnd_ok, R.bind_err, truth_bool, R.to_ok, R.to_err, then_next, then_ret, then_err, then_brk, res_ret, res_next, res_err, R.guard_true, R.clm_ok, fresh,
    isi_int_int, isi_int_bool, isi_int_str, isi_int_tuple, isi_int_list, isi_str_int, isi_str_bool, isi_str_str, isi_str_tuple, isi_str_list, isi_tuple_tuple, isi_tuple_str, isi_tuple_list, isi_list_list, isi_list_tuple, Bool.not_true, Bool.not_false,
    cmp_lt_int, cmp_gt_int, cmp_le_int, cmp_ge_int, cmp_eq_int, cmp_ne_int, cmp_lt_str, cmp_gt_str, cmp_eq_str, cmp_ne_str, cmp_in_sign, cmp_notin_sign, cmp_isnot_bool, cmp_is_bool, cmp_eq_bool, cmp_ne_bool,
    blt_len_list, blt_len_tuple, blt_len_str, items_list, items_tuple, items_str, seqItems_list, seqItems_tuple, seqItems_str, asInt_int, bindT_1, bindT_2, bindT_3, sub_tuple_0, sub_tuple_1, sub_list_0, bin_add_int, bin_sub_int, slice_list, slice_tuple, slice_str, unpack_1, unpack_2, unpack_3, thaw_no, X.has, hass, hasO, It.has, thawM_own, Nat.reduceBEq, Nat.reduceAdd, Bool.or_false, Bool.false_or, Bool.or_true, Bool.true_or, Bool.or_self, l0, after, scalar])]
  cases ns with
  | nil =>
    rw [execs_next ((exec_if_false (by simp -dsimp only [execs, exec, ev, evs, evO, evIf, evIt, List.map_cons, List.map_nil, thawM_dat, thaw_un, thaw_nil, thaw_sl, rep_0, rep_1, rep_2, rep_3, rep_4, rep_5, rep_6, rep_7, rep_8, rep_9, rep_10, rep_11, rep_12, rep_13, rep_14,
    List.append_nil, List.cons_append, List.nil_append, List.getElem?_cons_zero, List.getElem?_cons_succ, List.set_cons_zero, List.set_cons_succ, slotD, R.bnd_ok, R.bind_err, truth_bool, R.to_ok, R.to_err, then_next, then_ret, then_err, then_brk, res_ret, res_next, res_err, R.guard_true, R.clm_ok, fresh,
    isi_int_int, isi_int_bool, isi_int_str, isi_int_tuple, isi_int_list, isi_str_int, isi_str_bool, isi_str_str, isi_str_tuple, isi_str_list, isi_tuple_tuple, isi_tuple_str, isi_tuple_list, isi_list_list, isi_list_tuple, Bool.not_true, Bool.not_false,
    cmp_lt_int, cmp_gt_int, cmp_le_int, cmp_ge_int, cmp_eq_int, cmp_ne_int, cmp_lt_str, cmp_gt_str, cmp_eq_str, cmp_ne_str, cmp_in_sign, cmp_notin_sign, cmp_isnot_bool, cmp_is_bool, cmp_eq_bool, cmp_ne_bool,
    blt_len_list, blt_len_tuple, blt_len_str, items_list, items_tuple, items_str, seqItems_list, seqItems_tuple, seqItems_str, asInt_int, bindT_1, bindT_2, bindT_3, sub_tuple_0, sub_tuple_1, sub_list_0, bin_add_int, bin_sub_int, slice_list, slice_tuple, slice_str, unpack_1, unpack_2, unpack_3, thaw_no, X.has, hass, hasO, It.has, thawM_own, Nat.reduceBEq, Nat.reduceAdd, Bool.or_false, Bool.false_or, Bool.or_true, Bool.true_or, Bool.or_self, script_ne]; rfl)).trans rfl)]
    rw [show ([.dat (.list (([] : List Int).map D.int)), .dat (.int (k : Nat)), .dat (.int (many : Nat)), .dat (.int (7 * (k : Int))), .un, .un] : List Sl) = [.dat (.list (([] : List Int).map D.int)), .dat (.int (k : Nat)), .dat (.int (many : Nat)), .dat (.int (7 * (k : Int))), sl none, sl none] from rfl, drawn_fin h, res_ret]
    rfl
  | cons n0 nr =>
    have hpos : 0 < (n0 :: nr).length := Nat.succ_pos _
    have hk : k % (n0 :: nr).length < (n0 :: nr).length := Nat.mod_lt _ hpos
    obtain ⟨c, hc⟩ : ∃ c, (n0 :: nr)[k % (n0 :: nr).length]? = some c := ⟨_, List.getElem?_eq_getElem hk⟩
    have ek : ((k : Int) % ((n0 :: nr).length : Nat)) = ((k % (n0 :: nr).length : Nat) : Int) := by omega
    have ed : ((k : Int) / ((n0 :: nr).length : Nat)) = ((k / (n0 :: nr).length : Nat) : Int) := by omega
    have ml : binD .mod (.int (k : Nat)) (.int ((n0 :: nr).length : Nat)) = .ok (.int ((k % (n0 :: nr).length : Nat) : Int)) := by rw [mod_p (by omega), ek]
    have dl : binD .fdiv (.int (k : Nat)) (.int ((n0 :: nr).length : Nat)) = .ok (.int ((k / (n0 :: nr).length : Nat) : Int)) := by rw [fdiv_p (by omega) (by omega), ed]
    have sc : subD (.list ((n0 :: nr).map D.int)) (.int ((k % (n0 :: nr).length : Nat) : Int)) = .ok (.int c) := by rw [sub_list_n, List.getElem?_map, hc]; rfl
    unfold drawnI
    rw [hc]
    dsimp only
    generalize hns : (n0 :: nr) = ns at *
    have hne : ns.isEmpty = false := by rw [← hns]; rfl
    have fin : ∀ (x4 x5 : Option D) (v : Int), v = c + 6553 * ((k / ns.length : Nat) : Int) → exec (fx prog kk) (.asg 3 (.bin .add (.var 3) (.bin .mul (.con (.int 6553)) (.bin .fdiv (.var 1) (.blt .len [(.var 0)]))))) [.dat (.list (ns.map D.int)), .dat (.int (k : Nat)), .dat (.int (many : Nat)), .dat (.int c), sl x4, sl x5] = .next [.dat (.list (ns.map D.int)), .dat (.int (k : Nat)), .dat (.int (many : Nat)), .dat (.int v), sl x4, sl x5] := fun x4 x5 v hv => by
      simp -dsimp only [execs, exec, ev, evs, evO, evIf, evIt, List.map_cons, List.map_nil, thawM_dat, thaw_un, thaw_nil, thaw_sl, rep_0, rep_1, rep_2, rep_3, rep_4, rep_5, rep_6, rep_7, rep_8, rep_9, rep_10, rep_11, rep_12, rep_13, rep_14,
    List.append_nil, List.cons_append, List.nil_append, List.getElem?_cons_zero, List.getElem?_cons_succ, List.set_cons_zero, List.set_cons_succ, slotD, R.bnd_ok, R.bind_err, truth_bool, R.to_ok, R.to_err, then_next, then_ret, then_err, then_brk, res_ret, res_next, res_err, R.guard_true, R.clm_ok, fresh,
    isi_int_int, isi_int_bool, isi_int_str, isi_int_tuple, isi_int_list, isi_str_int, isi_str_bool, isi_str_str, isi_str_tuple, isi_str_list, isi_tuple_tuple, isi_tuple_str, isi_tuple_list, isi_list_list, isi_list_tuple, Bool.not_true, Bool.not_false,
    cmp_lt_int, cmp_gt_int, cmp_le_int, cmp_ge_int, cmp_eq_int, cmp_ne_int, cmp_lt_str, cmp_gt_str, cmp_eq_str, cmp_ne_str, cmp_in_sign, cmp_notin_sign, cmp_isnot_bool, cmp_is_bool, cmp_eq_bool, cmp_ne_bool,
    blt_len_list, blt_len_tuple, blt_len_str, items_list, items_tuple, items_str, seqItems_list, seqItems_tuple, seqItems_str, asInt_int, bindT_1, bindT_2, bindT_3, sub_tuple_0, sub_tuple_1, sub_list_0, bin_add_int, bin_sub_int, slice_list, slice_tuple, slice_str, unpack_1, unpack_2, unpack_3, thaw_no, X.has, hass, hasO, It.has, thawM_own, Nat.reduceBEq, Nat.reduceAdd, Bool.or_false, Bool.false_or, Bool.or_true, Bool.true_or, Bool.or_self, List.length_map, dl, l1, after, scalar, hv]
    have goOn : ∀ (x4 x5 : Option D) (r : List S), execs (fx prog kk) (.asg 3 (.bin .add (.var 3) (.bin .mul (.con (.int 6553)) (.bin .fdiv (.var 1) (.blt .len [(.var 0)])))) :: r) [.dat (.list (ns.map D.int)), .dat (.int (k : Nat)), .dat (.int (many : Nat)), .dat (.int c), sl x4, sl x5] = execs (fx prog kk) r [.dat (.list (ns.map D.int)), .dat (.int (k : Nat)), .dat (.int (many : Nat)), .dat (.int (c + 6553 * ((k / ns.length : Nat) : Int))), sl x4, sl x5] := fun x4 x5 r => execs_next (fin x4 x5 _ rfl)
    have start : ∀ r : List S, execs (fx prog kk) (.asg 3 (.sub (.var 0) (.bin .mod (.var 1) (.blt .len [(.var 0)]))) :: .asg 4 (.bin .fdiv (.var 1) (.blt .len [(.var 0)])) :: r) [.dat (.list (ns.map D.int)), .dat (.int (k : Nat)), .dat (.int (many : Nat)), .dat (.int (7 * (k : Int))), .un, .un] = execs (fx prog kk) r [.dat (.list (ns.map D.int)), .dat (.int (k : Nat)), .dat (.int (many : Nat)), .dat (.int c), .dat (.int ((k / ns.length : Nat) : Int)), .un] := fun r => by
      rw [execs_next (ρ' := [.dat (.list (ns.map D.int)), .dat (.int (k : Nat)), .dat (.int (many : Nat)), .dat (.int c), .un, .un]) (by simp -dsimp only [execs, exec, ev, evs, evO, evIf, evIt, List.map_cons, List.map_nil, thawM_dat, thaw_un, thaw_nil, thaw_sl, rep_0, rep_1, rep_2, rep_3, rep_4, rep_5, rep_6, rep_7, rep_8, rep_9, rep_10, rep_11, rep_12, rep_13, rep_14,
    List.append_nil, List.cons_append, List.nil_append, List.getElem?_cons_zero, List.getElem?_cons_succ, List.set_cons_zero, List.set_cons_succ, slotD, R.bnd_ok, R.bind_err, truth_bool, R.to_ok, R.to_err, then_next, then_ret, then_err, then_brk, res_ret, res_next, res_err, R.guard_true, R.clm_ok, fresh,
    isi_int_int, isi_int_bool, isi_int_str, isi_int_tuple, isi_int_list, isi_str_int, isi_str_bool, isi_str_str, isi_str_tuple, isi_str_list, isi_tuple_tuple, isi_tuple_str, isi_tuple_list, isi_list_list, isi_list_tuple, Bool.not_true, Bool.not_false,
    cmp_lt_int, cmp_gt_int, cmp_le_int, cmp_ge_int, cmp_eq_int, cmp_ne_int, cmp_lt_str, cmp_gt_str, cmp_eq_str, cmp_ne_str, cmp_in_sign, cmp_notin_sign, cmp_isnot_bool, cmp_is_bool, cmp_eq_bool, cmp_ne_bool,
    blt_len_list, blt_len_tuple, blt_len_str, items_list, items_tuple, items_str, seqItems_list, seqItems_tuple, seqItems_str, asInt_int, bindT_1, bindT_2, bindT_3, sub_tuple_0, sub_tuple_1, sub_list_0, bin_add_int, bin_sub_int, slice_list, slice_tuple, slice_str, unpack_1, unpack_2, unpack_3, thaw_no, X.has, hass, hasO, It.has, thawM_own, Nat.reduceBEq, Nat.reduceAdd, Bool.or_false, Bool.false_or, Bool.or_true, Bool.true_or, Bool.or_self, List.length_map, ml, sc, after, scalar])]
      rw [execs_next (ρ' := [.dat (.list (ns.map D.int)), .dat (.int (k : Nat)), .dat (.int (many : Nat)), .dat (.int c), .dat (.int ((k / ns.length : Nat) : Int)), .un]) (by simp -dsimp only [execs, exec, ev, evs, evO, evIf, evIt, List.map_cons, List.map_nil, thawM_dat, thaw_un, thaw_nil, thaw_sl, rep_0, rep_1, rep_2, rep_3, rep_4, rep_5, rep_6, rep_7, rep_8, rep_9, rep_10, rep_11, rep_12, rep_13, rep_14,
    List.append_nil, List.cons_append, List.nil_append, List.getElem?_cons_zero, List.getElem?_cons_succ, List.set_cons_zero, List.set_cons_succ, slotD, R.bnd_ok, R.bind_err, truth_bool, R.to_ok, R.to_err, then_next, then_ret, then_err, then_brk, res_ret, res_next, res_err, R.guard_true, R.clm_ok, fresh,
    isi_int_int, isi_int_bool, isi_int_str, isi_int_tuple, isi_int_list, isi_str_int, isi_str_bool, isi_str_str, isi_str_tuple, isi_str_list, isi_tuple_tuple, isi_tuple_str, isi_tuple_list, isi_list_list, isi_list_tuple, Bool.not_true, Bool.not_false,
    cmp_lt_int, cmp_gt_int, cmp_le_int, cmp_ge_int, cmp_eq_int, cmp_ne_int, cmp_lt_str, cmp_gt_str, cmp_eq_str, cmp_ne_str, cmp_in_sign, cmp_notin_sign, cmp_isnot_bool, cmp_is_bool, cmp_eq_bool, cmp_ne_bool,
    blt_len_list, blt_len_tuple, blt_len_str, items_list, items_tuple, items_str, seqItems_list, seqItems_tuple, seqItems_str, asInt_int, bindT_1, bindT_2, bindT_3, sub_tuple_0, sub_tuple_1, sub_list_0, bin_add_int, bin_sub_int, slice_list, slice_tuple, slice_str, unpack_1, unpack_2, unpack_3, thaw_no, X.has, hass, hasO, It.has, thawM_own, Nat.reduceBEq, Nat.reduceAdd, Bool.or_false, Bool.false_or, Bool.or_true, Bool.true_or, Bool.or_self, List.length_map, dl, after, scalar])]
    have h0 : (ev (fx prog kk) (thaw (fun i => X.has i (.cmp .ne (.var 0) (.list []))) 0 [.dat (.list (ns.map D.int)), .dat (.int (k : Nat)), .dat (.int (many : Nat)), .dat (.int (7 * (k : Int))), .un, .un]) (.cmp .ne (.var 0) (.list []))).bind truth = .ok true := by
      simp -dsimp only [execs, exec, ev, evs, evO, evIf, evIt, List.map_cons, List.map_nil, thawM_dat, thaw_un, thaw_nil, thaw_sl, rep_0, rep_1, rep_2, rep_3, rep_4, rep_5, rep_6, rep_7, rep_8, rep_9, rep_10, rep_11, rep_12, rep_13, rep_14,
    List.append_nil, List.cons_append, List.nil_append, List.getElem?_cons_zero, List.getElem?_cons_succ, List.set_cons_zero, List.set_cons_succ, slotD, R.bnd_ok, R.bind_err, truth_bool, R.to_ok, R.to_err, then_next, then_ret, then_err, then_brk, res_ret, res_next, res_err, R.guard_true, R.clm_ok, fresh,
    isi_int_int, isi_int_bool, isi_int_str, isi_int_tuple, isi_int_list, isi_str_int, isi_str_bool, isi_str_str, isi_str_tuple, isi_str_list, isi_tuple_tuple, isi_tuple_str, isi_tuple_list, isi_list_list, isi_list_tuple, Bool.not_true, Bool.not_false,
    cmp_lt_int, cmp_gt_int, cmp_le_int, cmp_ge_int, cmp_eq_int, cmp_ne_int, cmp_lt_str, cmp_gt_str, cmp_eq_str, cmp_ne_str, cmp_in_sign, cmp_notin_sign, cmp_isnot_bool, cmp_is_bool, cmp_eq_bool, cmp_ne_bool,
    blt_len_list, blt_len_tuple, blt_len_str, items_list, items_tuple, items_str, seqItems_list, seqItems_tuple, seqItems_str, asInt_int, bindT_1, bindT_2, bindT_3, sub_tuple_0, sub_tuple_1, sub_list_0, bin_add_int, bin_sub_int, slice_list, slice_tuple, slice_str, unpack_1, unpack_2, unpack_3, thaw_no, X.has, hass, hasO, It.has, thawM_own, Nat.reduceBEq, Nat.reduceAdd, Bool.or_false, Bool.false_or, Bool.or_true, Bool.true_or, Bool.or_self, script_ne, hne]
    by_cases hA : (10 : Int) ^ 18 ≤ c ∧ k / ns.length < 60
    · obtain ⟨x, hx⟩ := drawn_loop (F := fx prog kk) (d := .list (ns.map D.int)) (c := .int c) (k := k) (many := many) (k / ns.length) 1999 (c / 10 ^ 18) (by omega)
      have b1 : decide ((10 : Int) ^ 18 ≤ c) = true := decide_eq_true hA.1
      have b2 : decide (((k / ns.length : Nat) : Int) < 60) = true := decide_eq_true (by omega)
      have c3 : ∀ ρ, ρ = [.dat (.list (ns.map D.int)), .dat (.int (k : Nat)), .dat (.int (many : Nat)), .dat (.int c), .dat (.int ((k / ns.length : Nat) : Int)), .un] → (ev (fx prog kk) (thaw (fun i => X.has i (.and_ (.cmp .ge (.var 3) (.bin .pow (.con (.int 10)) (.con (.int 18)))) (.cmp .lt (.var 4) (.con (.int 60))))) 0 ρ) (.and_ (.cmp .ge (.var 3) (.bin .pow (.con (.int 10)) (.con (.int 18)))) (.cmp .lt (.var 4) (.con (.int 60))))).bind truth = .ok true := fun ρ e => by
        subst e
        simp -dsimp only [execs, exec, ev, evs, evO, evIf, evIt, List.map_cons, List.map_nil, thawM_dat, thaw_un, thaw_nil, thaw_sl, rep_0, rep_1, rep_2, rep_3, rep_4, rep_5, rep_6, rep_7, rep_8, rep_9, rep_10, rep_11, rep_12, rep_13, rep_14,
    List.append_nil, List.cons_append, List.nil_append, List.getElem?_cons_zero, List.getElem?_cons_succ, List.set_cons_zero, List.set_cons_succ, slotD, R.bnd_ok, R.bind_err, truth_bool, R.to_ok, R.to_err, then_next, then_ret, then_err, then_brk, res_ret, res_next, res_err, R.guard_true, R.clm_ok, fresh,
    isi_int_int, isi_int_bool, isi_int_str, isi_int_tuple, isi_int_list, isi_str_int, isi_str_bool, isi_str_str, isi_str_tuple, isi_str_list, isi_tuple_tuple, isi_tuple_str, isi_tuple_list, isi_list_list, isi_list_tuple, Bool.not_true, Bool.not_false,
    cmp_lt_int, cmp_gt_int, cmp_le_int, cmp_ge_int, cmp_eq_int, cmp_ne_int, cmp_lt_str, cmp_gt_str, cmp_eq_str, cmp_ne_str, cmp_in_sign, cmp_notin_sign, cmp_isnot_bool, cmp_is_bool, cmp_eq_bool, cmp_ne_bool,
    blt_len_list, blt_len_tuple, blt_len_str, items_list, items_tuple, items_str, seqItems_list, seqItems_tuple, seqItems_str, asInt_int, bindT_1, bindT_2, bindT_3, sub_tuple_0, sub_tuple_1, sub_list_0, bin_add_int, bin_sub_int, slice_list, slice_tuple, slice_str, unpack_1, unpack_2, unpack_3, thaw_no, X.has, hass, hasO, It.has, thawM_own, Nat.reduceBEq, Nat.reduceAdd, Bool.or_false, Bool.false_or, Bool.or_true, Bool.true_or, Bool.or_self, pw, b1, b2]
      have s5 : ∀ r : List S, execs (fx prog kk) (.asg 5 (.bin .fdiv (.var 3) (.bin .pow (.con (.int 10)) (.con (.int 18)))) :: r) [.dat (.list (ns.map D.int)), .dat (.int (k : Nat)), .dat (.int (many : Nat)), .dat (.int c), .dat (.int ((k / ns.length : Nat) : Int)), .un] = execs (fx prog kk) r [.dat (.list (ns.map D.int)), .dat (.int (k : Nat)), .dat (.int (many : Nat)), .dat (.int c), .dat (.int ((k / ns.length : Nat) : Int)), .dat (.int (c / 10 ^ 18))] := fun r => execs_next (by simp -dsimp only [execs, exec, ev, evs, evO, evIf, evIt, List.map_cons, List.map_nil, thawM_dat, thaw_un, thaw_nil, thaw_sl, rep_0, rep_1, rep_2, rep_3, rep_4, rep_5, rep_6, rep_7, rep_8, rep_9, rep_10, rep_11, rep_12, rep_13, rep_14,
    List.append_nil, List.cons_append, List.nil_append, List.getElem?_cons_zero, List.getElem?_cons_succ, List.set_cons_zero, List.set_cons_succ, slotD, R.bnd_ok, R.bind_err, truth_bool, R.to_ok, R.to_err, then_next, then_ret, then_err, then_brk, res_ret, res_next, res_err, R.guard_true, R.clm_ok, fresh,
    isi_int_int, isi_int_bool, isi_int_str, isi_int_tuple, isi_int_list, isi_str_int, isi_str_bool, isi_str_str, isi_str_tuple, isi_str_list, isi_tuple_tuple, isi_tuple_str, isi_tuple_list, isi_list_list, isi_list_tuple, Bool.not_true, Bool.not_false,
    cmp_lt_int, cmp_gt_int, cmp_le_int, cmp_ge_int, cmp_eq_int, cmp_ne_int, cmp_lt_str, cmp_gt_str, cmp_eq_str, cmp_ne_str, cmp_in_sign, cmp_notin_sign, cmp_isnot_bool, cmp_is_bool, cmp_eq_bool, cmp_ne_bool,
    blt_len_list, blt_len_tuple, blt_len_str, items_list, items_tuple, items_str, seqItems_list, seqItems_tuple, seqItems_str, asInt_int, bindT_1, bindT_2, bindT_3, sub_tuple_0, sub_tuple_1, sub_list_0, bin_add_int, bin_sub_int, slice_list, slice_tuple, slice_str, unpack_1, unpack_2, unpack_3, thaw_no, X.has, hass, hasO, It.has, thawM_own, Nat.reduceBEq, Nat.reduceAdd, Bool.or_false, Bool.false_or, Bool.or_true, Bool.true_or, Bool.or_self, pw, d18, after, scalar])
      by_cases hB : 0 < restA (k / ns.length) (c / 10 ^ 18)
      · rw [if_pos ⟨hA.1, hA.2, hB⟩]
        have b3 : decide (0 < restA (k / ns.length) (c / 10 ^ 18)) = true := decide_eq_true hB
        rw [execs_ret (d := .int (restA (k / ns.length) (c / 10 ^ 18) % 1000000 % (many : Int))) ((exec_if_true h0).trans ?_)]
        · rfl
        · rw [start, execs_ret ((exec_if_true (c3 _ rfl)).trans ?_)]
          rw [s5, execs_next (by rw [exec]; exact hx), execs_ret ((exec_if_true (by simp -dsimp only [execs, exec, ev, evs, evO, evIf, evIt, List.map_cons, List.map_nil, thawM_dat, thaw_un, thaw_nil, thaw_sl, rep_0, rep_1, rep_2, rep_3, rep_4, rep_5, rep_6, rep_7, rep_8, rep_9, rep_10, rep_11, rep_12, rep_13, rep_14,
    List.append_nil, List.cons_append, List.nil_append, List.getElem?_cons_zero, List.getElem?_cons_succ, List.set_cons_zero, List.set_cons_succ, slotD, R.bnd_ok, R.bind_err, truth_bool, R.to_ok, R.to_err, then_next, then_ret, then_err, then_brk, res_ret, res_next, res_err, R.guard_true, R.clm_ok, fresh,
    isi_int_int, isi_int_bool, isi_int_str, isi_int_tuple, isi_int_list, isi_str_int, isi_str_bool, isi_str_str, isi_str_tuple, isi_str_list, isi_tuple_tuple, isi_tuple_str, isi_tuple_list, isi_list_list, isi_list_tuple, Bool.not_true, Bool.not_false,
    cmp_lt_int, cmp_gt_int, cmp_le_int, cmp_ge_int, cmp_eq_int, cmp_ne_int, cmp_lt_str, cmp_gt_str, cmp_eq_str, cmp_ne_str, cmp_in_sign, cmp_notin_sign, cmp_isnot_bool, cmp_is_bool, cmp_eq_bool, cmp_ne_bool,
    blt_len_list, blt_len_tuple, blt_len_str, items_list, items_tuple, items_str, seqItems_list, seqItems_tuple, seqItems_str, asInt_int, bindT_1, bindT_2, bindT_3, sub_tuple_0, sub_tuple_1, sub_list_0, bin_add_int, bin_sub_int, slice_list, slice_tuple, slice_str, unpack_1, unpack_2, unpack_3, thaw_no, X.has, hass, hasO, It.has, thawM_own, Nat.reduceBEq, Nat.reduceAdd, Bool.or_false, Bool.false_or, Bool.or_true, Bool.true_or, Bool.or_self, b3])).trans ?_)]
          exact execs_ret (by simp -dsimp only [execs, exec, ev, evs, evO, evIf, evIt, List.map_cons, List.map_nil, thawM_dat, thaw_un, thaw_nil, thaw_sl, rep_0, rep_1, rep_2, rep_3, rep_4, rep_5, rep_6, rep_7, rep_8, rep_9, rep_10, rep_11, rep_12, rep_13, rep_14,
    List.append_nil, List.cons_append, List.nil_append, List.getElem?_cons_zero, List.getElem?_cons_succ, List.set_cons_zero, List.set_cons_succ, slotD, R.bnd_ok, R.bind_err, truth_bool, R.to_ok, R.to_err, then_next, then_ret, then_err, then_brk, res_ret, res_next, res_err, R.guard_true, R.clm_ok, fresh,
    isi_int_int, isi_int_bool, isi_int_str, isi_int_tuple, isi_int_list, isi_str_int, isi_str_bool, isi_str_str, isi_str_tuple, isi_str_list, isi_tuple_tuple, isi_tuple_str, isi_tuple_list, isi_list_list, isi_list_tuple, Bool.not_true, Bool.not_false,
    cmp_lt_int, cmp_gt_int, cmp_le_int, cmp_ge_int, cmp_eq_int, cmp_ne_int, cmp_lt_str, cmp_gt_str, cmp_eq_str, cmp_ne_str, cmp_in_sign, cmp_notin_sign, cmp_isnot_bool, cmp_is_bool, cmp_eq_bool, cmp_ne_bool,
    blt_len_list, blt_len_tuple, blt_len_str, items_list, items_tuple, items_str, seqItems_list, seqItems_tuple, seqItems_str, asInt_int, bindT_1, bindT_2, bindT_3, sub_tuple_0, sub_tuple_1, sub_list_0, bin_add_int, bin_sub_int, slice_list, slice_tuple, slice_str, unpack_1, unpack_2, unpack_3, thaw_no, X.has, hass, hasO, It.has, thawM_own, Nat.reduceBEq, Nat.reduceAdd, Bool.or_false, Bool.false_or, Bool.or_true, Bool.true_or, Bool.or_self, m6, mm])
      · rw [if_neg (fun z => hB z.2.2)]
        have b3 : decide (0 < restA (k / ns.length) (c / 10 ^ 18)) = false := decide_eq_false hB
        rw [execs_next (ρ' := [.dat (.list (ns.map D.int)), .dat (.int (k : Nat)), .dat (.int (many : Nat)), .dat (.int (c + 6553 * ((k / ns.length : Nat) : Int))), sl (some x), sl (some (.int (restA (k / ns.length) (c / 10 ^ 18))))]) ((exec_if_true h0).trans ?_)]
        · rw [drawn_fin h, res_ret]
        · rw [start, execs_next ((exec_if_true (c3 _ rfl)).trans (by
            rw [s5, execs_next (by rw [exec]; exact hx), execs_next ((exec_if_false (by simp -dsimp only [execs, exec, ev, evs, evO, evIf, evIt, List.map_cons, List.map_nil, thawM_dat, thaw_un, thaw_nil, thaw_sl, rep_0, rep_1, rep_2, rep_3, rep_4, rep_5, rep_6, rep_7, rep_8, rep_9, rep_10, rep_11, rep_12, rep_13, rep_14,
    List.append_nil, List.cons_append, List.nil_append, List.getElem?_cons_zero, List.getElem?_cons_succ, List.set_cons_zero, List.set_cons_succ, slotD, R.bnd_ok, R.bind_err, truth_bool, R.to_ok, R.to_err, then_next, then_ret, then_err, then_brk, res_ret, res_next, res_err, R.guard_true, R.clm_ok, fresh,
    isi_int_int, isi_int_bool, isi_int_str, isi_int_tuple, isi_int_list, isi_str_int, isi_str_bool, isi_str_str, isi_str_tuple, isi_str_list, isi_tuple_tuple, isi_tuple_str, isi_tuple_list, isi_list_list, isi_list_tuple, Bool.not_true, Bool.not_false,
    cmp_lt_int, cmp_gt_int, cmp_le_int, cmp_ge_int, cmp_eq_int, cmp_ne_int, cmp_lt_str, cmp_gt_str, cmp_eq_str, cmp_ne_str, cmp_in_sign, cmp_notin_sign, cmp_isnot_bool, cmp_is_bool, cmp_eq_bool, cmp_ne_bool,
    blt_len_list, blt_len_tuple, blt_len_str, items_list, items_tuple, items_str, seqItems_list, seqItems_tuple, seqItems_str, asInt_int, bindT_1, bindT_2, bindT_3, sub_tuple_0, sub_tuple_1, sub_list_0, bin_add_int, bin_sub_int, slice_list, slice_tuple, slice_str, unpack_1, unpack_2, unpack_3, thaw_no, X.has, hass, hasO, It.has, thawM_own, Nat.reduceBEq, Nat.reduceAdd, Bool.or_false, Bool.false_or, Bool.or_true, Bool.true_or, Bool.or_self, b3])).trans rfl)]
            rfl)), show ([.dat (.list (ns.map D.int)), .dat (.int (k : Nat)), .dat (.int (many : Nat)), .dat (.int c), .dat x, .dat (.int (restA (k / ns.length) (c / 10 ^ 18)))] : List Sl) = [.dat (.list (ns.map D.int)), .dat (.int (k : Nat)), .dat (.int (many : Nat)), .dat (.int c), sl (some x), sl (some (.int (restA (k / ns.length) (c / 10 ^ 18))))] from rfl, goOn]
          rfl
    · rw [if_neg (fun z => hA ⟨z.1, z.2.1⟩)]
      have c3 : (ev (fx prog kk) (thaw (fun i => X.has i (.and_ (.cmp .ge (.var 3) (.bin .pow (.con (.int 10)) (.con (.int 18)))) (.cmp .lt (.var 4) (.con (.int 60))))) 0 [.dat (.list (ns.map D.int)), .dat (.int (k : Nat)), .dat (.int (many : Nat)), .dat (.int c), .dat (.int ((k / ns.length : Nat) : Int)), .un]) (.and_ (.cmp .ge (.var 3) (.bin .pow (.con (.int 10)) (.con (.int 18)))) (.cmp .lt (.var 4) (.con (.int 60))))).bind truth = .ok false := by
        by_cases h1 : (10 : Int) ^ 18 ≤ c
        · have b1 : decide ((10 : Int) ^ 18 ≤ c) = true := decide_eq_true h1
          have b2 : decide (((k / ns.length : Nat) : Int) < 60) = false := decide_eq_false (by omega)
          simp -dsimp only [execs, exec, ev, evs, evO, evIf, evIt, List.map_cons, List.map_nil, thawM_dat, thaw_un, thaw_nil, thaw_sl, rep_0, rep_1, rep_2, rep_3, rep_4, rep_5, rep_6, rep_7, rep_8, rep_9, rep_10, rep_11, rep_12, rep_13, rep_14,
    List.append_nil, List.cons_append, List.nil_append, List.getElem?_cons_zero, List.getElem?_cons_succ, List.set_cons_zero, List.set_cons_succ, slotD, R.bnd_ok, R.bind_err, truth_bool, R.to_ok, R.to_err, then_next, then_ret, then_err, then_brk, res_ret, res_next, res_err, R.guard_true, R.clm_ok, fresh,
    isi_int_int, isi_int_bool, isi_int_str, isi_int_tuple, isi_int_list, isi_str_int, isi_str_bool, isi_str_str, isi_str_tuple, isi_str_list, isi_tuple_tuple, isi_tuple_str, isi_tuple_list, isi_list_list, isi_list_tuple, Bool.not_true, Bool.not_false,
    cmp_lt_int, cmp_gt_int, cmp_le_int, cmp_ge_int, cmp_eq_int, cmp_ne_int, cmp_lt_str, cmp_gt_str, cmp_eq_str, cmp_ne_str, cmp_in_sign, cmp_notin_sign, cmp_isnot_bool, cmp_is_bool, cmp_eq_bool, cmp_ne_bool,
    blt_len_list, blt_len_tuple, blt_len_str, items_list, items_tuple, items_str, seqItems_list, seqItems_tuple, seqItems_str, asInt_int, bindT_1, bindT_2, bindT_3, sub_tuple_0, sub_tuple_1, sub_list_0, bin_add_int, bin_sub_int, slice_list, slice_tuple, slice_str, unpack_1, unpack_2, unpack_3, thaw_no, X.has, hass, hasO, It.has, thawM_own, Nat.reduceBEq, Nat.reduceAdd, Bool.or_false, Bool.false_or, Bool.or_true, Bool.true_or, Bool.or_self, pw, b1, b2]
        · have b1 : decide ((10 : Int) ^ 18 ≤ c) = false := decide_eq_false h1
          simp -dsimp only [execs, exec, ev, evs, evO, evIf, evIt, List.map_cons, List.map_nil, thawM_dat, thaw_un, thaw_nil, thaw_sl, rep_0, rep_1, rep_2, rep_3, rep_4, rep_5, rep_6, rep_7, rep_8, rep_9, rep_10, rep_11, rep_12, rep_13, rep_14,
    List.append_nil, List.cons_append, List.nil_append, List.getElem?_cons_zero, List.getElem?_cons_succ, List.set_cons_zero, List.set_cons_succ, slotD, R.bnd_ok, R.bind_err, truth_bool, R.to_ok, R.to_err, then_next, then_ret, then_err, then_brk, res_ret, res_next, res_err, R.guard_true, R.clm_ok, fresh,
    isi_int_int, isi_int_bool, isi_int_str, isi_int_tuple, isi_int_list, isi_str_int, isi_str_bool, isi_str_str, isi_str_tuple, isi_str_list, isi_tuple_tuple, isi_tuple_str, isi_tuple_list, isi_list_list, isi_list_tuple, Bool.not_true, Bool.not_false,
    cmp_lt_int, cmp_gt_int, cmp_le_int, cmp_ge_int, cmp_eq_int, cmp_ne_int, cmp_lt_str, cmp_gt_str, cmp_eq_str, cmp_ne_str, cmp_in_sign, cmp_notin_sign, cmp_isnot_bool, cmp_is_bool, cmp_eq_bool, cmp_ne_bool,
    blt_len_list, blt_len_tuple, blt_len_str, items_list, items_tuple, items_str, seqItems_list, seqItems_tuple, seqItems_str, asInt_int, bindT_1, bindT_2, bindT_3, sub_tuple_0, sub_tuple_1, sub_list_0, bin_add_int, bin_sub_int, slice_list, slice_tuple, slice_str, unpack_1, unpack_2, unpack_3, thaw_no, X.has, hass, hasO, It.has, thawM_own, Nat.reduceBEq, Nat.reduceAdd, Bool.or_false, Bool.false_or, Bool.or_true, Bool.true_or, Bool.or_self, pw, b1]
      rw [execs_next (ρ' := [.dat (.list (ns.map D.int)), .dat (.int (k : Nat)), .dat (.int (many : Nat)), .dat (.int (c + 6553 * ((k / ns.length : Nat) : Int))), sl (some (.int ((k / ns.length : Nat) : Int))), sl none]) ((exec_if_true h0).trans ?_)]
      · rw [drawn_fin h, res_ret]
      · rw [start, execs_next ((exec_if_false c3).trans rfl), show ([.dat (.list (ns.map D.int)), .dat (.int (k : Nat)), .dat (.int (many : Nat)), .dat (.int c), .dat (.int ((k / ns.length : Nat) : Int)), .un] : List Sl) = [.dat (.list (ns.map D.int)), .dat (.int (k : Nat)), .dat (.int (many : Nat)), .dat (.int c), sl (some (.int ((k / ns.length : Nat) : Int))), sl none] from rfl, goOn]
        rfl

def abcn (d : Nat) : Nat := [97, 98, 99, 110, 54, 57].getD d 0
theorem abcn_at {d : Nat} (h : d < 6) : subD (.str [97, 98, 99, 110, 54, 57]) (.int (d : Nat)) = .ok (.str [abcn d]) := by
  rw [sub_str_n]
  match d, h with
  | 0, _ => rfl
  | 1, _ => rfl
  | 2, _ => rfl
  | 3, _ => rfl
  | 4, _ => rfl
  | 5, _ => rfl
theorem abcn_in {d : Nat} (h : d < 6) : abcn d ∈ [97, 98, 99, 110, 54, 57] := by
  match d, h with
  | 0, _ => decide
  | 1, _ => decide
  | 2, _ => decide
  | 3, _ => decide
  | 4, _ => decide
  | 5, _ => decide
def lawSigns (ns : List Int) (a k m : Nat) : List W := [abcn (drawn ns (a + 2 + 4 * k) 6)] :: (List.range m).map fun n => [abcn (drawn ns (a + 3 + 4 * k + n) 6)]
def lawCube (ns : List Int) (a k : Nat) : W := (sortS (once (lawSigns ns a k (drawn ns (a + 1 + 4 * k) 3)))).flatten
def lawCubes (ns : List Int) (a most : Nat) : List W := (List.range (1 + drawn ns a most)).map (lawCube ns a)
def menuT : List Tw := [[], [], [(54, 57)], [(54, 57), (110, 117)], [(97, 98)]]
def lawTwins (ns : List Int) (a : Nat) : Tw := menuT.getD (drawn ns (a + 30) 5) []
theorem twins_at {d : Nat} (h : d < 5) : subD (.list [.tuple [], .tuple [], .tuple [.str [54, 57]], .tuple [.str [54, 57], .str [110, 117]], .tuple [.str [97, 98]]]) (.int (d : Nat)) = .ok (dTw (menuT.getD d [])) := by
  rw [sub_list_n]
  match d, h with
  | 0, _ => rfl
  | 1, _ => rfl
  | 2, _ => rfl
  | 3, _ => rfl
  | 4, _ => rfl
theorem lawSigns_sg (ns : List Int) (a k m : Nat) : ∀ x ∈ lawSigns ns a k m, ∃ c ∈ [97, 98, 99, 110, 54, 57], x = [c] := by
  intro x hx
  rcases List.mem_cons.mp hx with e | e
  · exact ⟨_, abcn_in (drawn_lt (by decide)), e⟩
  · obtain ⟨n, _, rfl⟩ := List.mem_map.mp e
    exact ⟨_, abcn_in (drawn_lt (by decide)), rfl⟩
/-- texts of one sign, ascending: their join ascends -/
theorem flat_sg : ∀ {l : List W}, (∀ x ∈ l, ∃ c, x = [c]) → ∃ s : W, l = sg s ∧ l.flatten = s
  | [], _ => ⟨[], rfl, rfl⟩
  | x :: l, h => by
    obtain ⟨c, rfl⟩ := h x List.mem_cons_self
    obtain ⟨s, e1, e2⟩ := flat_sg fun y hy => h y (List.mem_cons_of_mem _ hy)
    exact ⟨c :: s, by rw [e1]; rfl, by rw [List.flatten_cons, e2]; rfl⟩
theorem sg_len (s : W) : (sg s).length = s.length := by unfold sg; rw [List.length_map]
theorem sg_mem {c : Nat} {s : W} : [c] ∈ sg s ↔ c ∈ s := by
  unfold sg
  rw [List.mem_map]
  exact ⟨fun ⟨d, hd, e⟩ => by cases e; exact hd, fun h => ⟨c, h, rfl⟩⟩
theorem sg_pw {s : W} (h : (sg s).Pairwise (· < ·)) : s.Pairwise (· < ·) := by
  unfold sg at h
  rw [List.pairwise_map] at h
  exact h.imp fun h => sg_lt.mp h
/-- the join of sorted(set(..)) of texts of one sign -/
theorem join_set {l : List W} (h : ∀ x ∈ l, ∃ c, x = [c]) : ((sortS (once l)).flatten).Pairwise (· < ·) ∧ sg (sortS (once l)).flatten = sortS (once l) ∧ ∀ c, c ∈ (sortS (once l)).flatten ↔ [c] ∈ l := by
  obtain ⟨s, e1, e2⟩ := flat_sg (l := sortS (once l)) fun x hx => h x (mem_once.mp (mem_sortS.mp hx))
  rw [e2]
  refine ⟨sg_pw ?_, e1.symm, fun c => ?_⟩
  · rw [← e1]; exact sortS_up nodup_once
  · rw [← sg_mem, ← e1, mem_sortS, mem_once]
theorem lawCube_ok (ns : List Int) (a k : Nat) : OkC (lawCube ns a k) ∧ (lawCube ns a k).length ≤ 3 ∧ ∀ c ∈ lawCube ns a k, c ∈ [97, 98, 99, 110, 54, 57] := by
  obtain ⟨h1, h2, h3⟩ := join_set (l := lawSigns ns a k (drawn ns (a + 1 + 4 * k) 3)) fun x hx => let ⟨c, _, e⟩ := lawSigns_sg ns a k _ x hx; ⟨c, e⟩
  have hlen : (lawCube ns a k).length ≤ 3 := by
    have e : (lawCube ns a k).length = (sortS (once (lawSigns ns a k (drawn ns (a + 1 + 4 * k) 3)))).length := by rw [← h2, sg_len]; rfl
    rw [e, sortS_len]
    refine Nat.le_trans onceM_len ?_
    unfold lawSigns
    rw [List.length_cons, List.length_map, List.length_range]
    have := drawn_lt (ns := ns) (k := a + 1 + 4 * k) (many := 3) (by decide)
    omega
  have hmem : ∀ c ∈ lawCube ns a k, c ∈ [97, 98, 99, 110, 54, 57] := fun c hc => by
    obtain ⟨d, hd, e⟩ := lawSigns_sg ns a k _ _ ((h3 c).mp hc)
    cases e
    exact hd
  refine ⟨⟨?_, by omega, fun s hs => ?_, h1⟩, hlen, hmem⟩
  · refine List.length_pos_iff.mpr fun e => ?_
    have := (h3 (abcn (drawn ns (a + 2 + 4 * k) 6))).mpr List.mem_cons_self
    rw [show (sortS (once (lawSigns ns a k (drawn ns (a + 1 + 4 * k) 3)))).flatten = lawCube ns a k from rfl, e] at this
    cases this
  · have := hmem s hs
    simp only [List.mem_cons, List.not_mem_nil, or_false] at this
    rcases this with e | e | e | e | e | e <;> (rw [e]; decide)
theorem menuT_ok : ∀ t ∈ menuT, OkT t := by
  intro t ht
  simp only [menuT, List.mem_cons, List.not_mem_nil, or_false] at ht
  rcases ht with e | e | e | e | e <;> (subst e; exact ⟨by decide, by decide, by decide, by decide, by decide⟩)
theorem menuT_in {d : Nat} (h : d < 5) : menuT.getD d [] ∈ menuT := by
  match d, h with
  | 0, _ => simp [menuT]
  | 1, _ => simp [menuT]
  | 2, _ => simp [menuT]
  | 3, _ => simp [menuT]
  | 4, _ => simp [menuT]
theorem lawBox_ok {ns : List Int} {a most : Nat} (h0 : 0 < most) (h : most ≤ 6) : OkB (lawCubes ns a most) (lawTwins ns a) := by
  have hd := drawn_lt (ns := ns) (k := a) (many := most) h0
  refine ⟨?_, ?_, fun c hc => ?_, menuT_ok _ (menuT_in (drawn_lt (by decide)))⟩
  · unfold lawCubes; rw [List.length_map, List.length_range]; omega
  · unfold lawCubes; rw [List.length_map, List.length_range]; omega
  · obtain ⟨k, _, rfl⟩ := List.mem_map.mp hc
    exact (lawCube_ok ns a k).1
theorem range_at {n k : Nat} {pre post : List Nat} (h : List.range n = pre ++ k :: post) : k = pre.length := by
  have e := congrArg (·[pre.length]?) h
  simp only [List.getElem?_append_right (Nat.le_refl _), Nat.sub_self, List.getElem?_cons_zero] at e
  rw [List.getElem?_range (by
    have := congrArg List.length h
    rw [List.length_range, List.length_append, List.length_cons] at this
    omega)] at e
  exact (Option.some.inj e).symm
theorem law_box_ev {kk : Nat} {ns : List Int} {a most : Nat} (h0 : 0 < most) (hm : most ≤ 6) (hl : ns.length ≤ 1000) : (fx prog (kk + 2)).call f__law_box [.list (ns.map D.int), .int (a : Nat), .int (most : Nat)] = .ok (dBox (lawCubes ns a most) (lawTwins ns a)) := by
  rw [call_at (df := d__law_box) rfl, runDf_eq rfl]
  have hd := drawn_lt (ns := ns) (k := a) (many := most) h0
  unfold d__law_box
  dsimp only
  rw [execs_next (ρ' := [.dat (.list (ns.map D.int)), .dat (.int (a : Nat)), .dat (.int (most : Nat)), .own (.list []), .un, .un, .un, .un]) (by simp -dsimp only [execs, exec, ev, evs, evO, evIf, evIt, List.map_cons, List.map_nil, thawM_dat, thaw_un, thaw_nil, thaw_sl, rep_0, rep_1, rep_2, rep_3, rep_4, rep_5, rep_6, rep_7, rep_8, rep_9, rep_10, rep_11, rep_12, rep_13, rep_14,
    List.append_nil, List.cons_append, List.nil_append, List.getElem?_cons_zero, List.getElem?_cons_succ, List.set_cons_zero, List.set_cons_succ, slotD, R.bnd_ok, R.bind_err, truth_bool, R.to_ok, R.to_err, then_next, then_ret, then_err, then_brk, res_ret, res_next, res_err, R.guard_true, R.clm_ok, fresh,
    isi_int_int, isi_int_bool, isi_int_str, isi_int_tuple, isi_int_list, isi_str_int, isi_str_bool, isi_str_str, isi_str_tuple, isi_str_list, isi_tuple_tuple, isi_tuple_str, isi_tuple_list, isi_list_list, isi_list_tuple, Bool.not_true, Bool.not_false,
    cmp_lt_int, cmp_gt_int, cmp_le_int, cmp_ge_int, cmp_eq_int, cmp_ne_int, cmp_lt_str, cmp_gt_str, cmp_eq_str, cmp_ne_str, cmp_in_sign, cmp_notin_sign, cmp_isnot_bool, cmp_is_bool, cmp_eq_bool, cmp_ne_bool,
    blt_len_list, blt_len_tuple, blt_len_str, items_list, items_tuple, items_str, seqItems_list, seqItems_tuple, seqItems_str, asInt_int, bindT_1, bindT_2, bindT_3, sub_tuple_0, sub_tuple_1, sub_list_0, bin_add_int, bin_sub_int, slice_list, slice_tuple, slice_str, unpack_1, unpack_2, unpack_3, thaw_no, X.has, hass, hasO, It.has, thawM_own, Nat.reduceBEq, Nat.reduceAdd, Bool.or_false, Bool.false_or, Bool.or_true, Bool.true_or, Bool.or_self, after, scalar])]
  have l4 : ∀ x : Int, binD .mul (.int 4) (.int x) = .ok (.int (4 * x)) := fun x => mul_l (by decide) (by decide)
  have er : (1 : Int) + (drawn ns a most : Nat) = ((1 + drawn ns a most : Nat) : Int) := by omega
  have e2 : ∀ k : Nat, (a : Int) + 2 + 4 * (k : Int) = ((a + 2 + 4 * k : Nat) : Int) := fun k => by omega
  have e1 : ∀ k : Nat, (a : Int) + 1 + 4 * (k : Int) = ((a + 1 + 4 * k : Nat) : Int) := fun k => by omega
  have e3 : ∀ k n : Nat, (a : Int) + 3 + 4 * (k : Int) + (n : Int) = ((a + 3 + 4 * k + n : Nat) : Int) := fun k n => by omega
  have d6 : ∀ k : Nat, (fx prog (kk + 1)).call f__law_drawn [.list (ns.map D.int), .int (k : Nat), .int 6] = .ok (.int (drawn ns k 6 : Nat)) := fun k => drawn_ev (many := 6) (by decide) hl
  have d3 : ∀ k : Nat, (fx prog (kk + 1)).call f__law_drawn [.list (ns.map D.int), .int (k : Nat), .int 3] = .ok (.int (drawn ns k 3 : Nat)) := fun k => drawn_ev (many := 3) (by decide) hl
  have d5 : ∀ k : Nat, (fx prog (kk + 1)).call f__law_drawn [.list (ns.map D.int), .int (k : Nat), .int 5] = .ok (.int (drawn ns k 5 : Nat)) := fun k => drawn_ev (many := 5) (by decide) hl
  have dm : (fx prog (kk + 1)).call f__law_drawn [.list (ns.map D.int), .int (a : Nat), .int (most : Nat)] = .ok (.int (drawn ns a most : Nat)) := drawn_ev h0 hl
  refine for_res (fun (pre : List Nat) ρ => ∃ x4 s5 x6, ρ = [.dat (.list (ns.map D.int)), .dat (.int (a : Nat)), .dat (.int (most : Nat)), .own (.list ((pre.map (lawCube ns a)).map .str)), sl x4, s5, sl x6, .un]) (evIt_rng (n := 1 + drawn ns a most) (by simp -dsimp only [execs, exec, ev, evs, evO, evIf, evIt, List.map_cons, List.map_nil, thawM_dat, thaw_un, thaw_nil, thaw_sl, rep_0, rep_1, rep_2, rep_3, rep_4, rep_5, rep_6, rep_7, rep_8, rep_9, rep_10, rep_11, rep_12, rep_13, rep_14,
    List.append_nil, List.cons_append, List.nil_append, List.getElem?_cons_zero, List.getElem?_cons_succ, List.set_cons_zero, List.set_cons_succ, slotD, R.bnd_ok, R.bind_err, truth_bool, R.to_ok, R.to_err, then_next, then_ret, then_err, then_brk, res_ret, res_next, res_err, R.guard_true, R.clm_ok, fresh,
    isi_int_int, isi_int_bool, isi_int_str, isi_int_tuple, isi_int_list, isi_str_int, isi_str_bool, isi_str_str, isi_str_tuple, isi_str_list, isi_tuple_tuple, isi_tuple_str, isi_tuple_list, isi_list_list, isi_list_tuple, Bool.not_true, Bool.not_false,
    cmp_lt_int, cmp_gt_int, cmp_le_int, cmp_ge_int, cmp_eq_int, cmp_ne_int, cmp_lt_str, cmp_gt_str, cmp_eq_str, cmp_ne_str, cmp_in_sign, cmp_notin_sign, cmp_isnot_bool, cmp_is_bool, cmp_eq_bool, cmp_ne_bool,
    blt_len_list, blt_len_tuple, blt_len_str, items_list, items_tuple, items_str, seqItems_list, seqItems_tuple, seqItems_str, asInt_int, bindT_1, bindT_2, bindT_3, sub_tuple_0, sub_tuple_1, sub_list_0, bin_add_int, bin_sub_int, slice_list, slice_tuple, slice_str, unpack_1, unpack_2, unpack_3, thaw_no, X.has, hass, hasO, It.has, thawM_own, Nat.reduceBEq, Nat.reduceAdd, Bool.or_false, Bool.false_or, Bool.or_true, Bool.true_or, Bool.or_self, dm, er]) (by omega)) ?_ (fun pre post k ρ hk ⟨x4, s5, x6, hρ⟩ => ?_) (fun ρ' ⟨x4, s5, x6, hρ⟩ => ?_)
  · exact ⟨none, .un, none, by simp -dsimp only [execs, exec, ev, evs, evO, evIf, evIt, List.map_cons, List.map_nil, thawM_dat, thaw_un, thaw_nil, thaw_sl, rep_0, rep_1, rep_2, rep_3, rep_4, rep_5, rep_6, rep_7, rep_8, rep_9, rep_10, rep_11, rep_12, rep_13, rep_14,
    List.append_nil, List.cons_append, List.nil_append, List.getElem?_cons_zero, List.getElem?_cons_succ, List.set_cons_zero, List.set_cons_succ, slotD, R.bnd_ok, R.bind_err, truth_bool, R.to_ok, R.to_err, then_next, then_ret, then_err, then_brk, res_ret, res_next, res_err, R.guard_true, R.clm_ok, fresh,
    isi_int_int, isi_int_bool, isi_int_str, isi_int_tuple, isi_int_list, isi_str_int, isi_str_bool, isi_str_str, isi_str_tuple, isi_str_list, isi_tuple_tuple, isi_tuple_str, isi_tuple_list, isi_list_list, isi_list_tuple, Bool.not_true, Bool.not_false,
    cmp_lt_int, cmp_gt_int, cmp_le_int, cmp_ge_int, cmp_eq_int, cmp_ne_int, cmp_lt_str, cmp_gt_str, cmp_eq_str, cmp_ne_str, cmp_in_sign, cmp_notin_sign, cmp_isnot_bool, cmp_is_bool, cmp_eq_bool, cmp_ne_bool,
    blt_len_list, blt_len_tuple, blt_len_str, items_list, items_tuple, items_str, seqItems_list, seqItems_tuple, seqItems_str, asInt_int, bindT_1, bindT_2, bindT_3, sub_tuple_0, sub_tuple_1, sub_list_0, bin_add_int, bin_sub_int, slice_list, slice_tuple, slice_str, unpack_1, unpack_2, unpack_3, thaw_no, X.has, hass, hasO, It.has, thawM_own, Nat.reduceBEq, Nat.reduceAdd, Bool.or_false, Bool.false_or, Bool.or_true, Bool.true_or, Bool.or_self]; rfl⟩
  · subst hρ
    have hpre : pre.length < 6 := by
      have := congrArg List.length hk
      rw [List.length_range, List.length_append, List.length_cons] at this
      omega
    have s0 := abcn_at (drawn_lt (ns := ns) (k := a + 2 + 4 * k) (many := 6) (by decide))
    have dk := drawn_lt (ns := ns) (k := a + 1 + 4 * k) (many := 3) (by decide)
    simp only [unpack_1, unpack_2, unpack_3, then_next, List.set_cons_zero, List.set_cons_succ]
    rw [execs_next (ρ' := [.dat (.list (ns.map D.int)), .dat (.int (a : Nat)), .dat (.int (most : Nat)), .own (.list ((pre.map (lawCube ns a)).map .str)), .dat (.int (k : Nat)), .own (.list ((lawSigns ns a k 0).map .str)), sl x6, .un]) (by simp -dsimp only [execs, exec, ev, evs, evO, evIf, evIt, List.map_cons, List.map_nil, thawM_dat, thaw_un, thaw_nil, thaw_sl, rep_0, rep_1, rep_2, rep_3, rep_4, rep_5, rep_6, rep_7, rep_8, rep_9, rep_10, rep_11, rep_12, rep_13, rep_14,
    List.append_nil, List.cons_append, List.nil_append, List.getElem?_cons_zero, List.getElem?_cons_succ, List.set_cons_zero, List.set_cons_succ, slotD, R.bnd_ok, R.bind_err, truth_bool, R.to_ok, R.to_err, then_next, then_ret, then_err, then_brk, res_ret, res_next, res_err, R.guard_true, R.clm_ok, fresh,
    isi_int_int, isi_int_bool, isi_int_str, isi_int_tuple, isi_int_list, isi_str_int, isi_str_bool, isi_str_str, isi_str_tuple, isi_str_list, isi_tuple_tuple, isi_tuple_str, isi_tuple_list, isi_list_list, isi_list_tuple, Bool.not_true, Bool.not_false,
    cmp_lt_int, cmp_gt_int, cmp_le_int, cmp_ge_int, cmp_eq_int, cmp_ne_int, cmp_lt_str, cmp_gt_str, cmp_eq_str, cmp_ne_str, cmp_in_sign, cmp_notin_sign, cmp_isnot_bool, cmp_is_bool, cmp_eq_bool, cmp_ne_bool,
    blt_len_list, blt_len_tuple, blt_len_str, items_list, items_tuple, items_str, seqItems_list, seqItems_tuple, seqItems_str, asInt_int, bindT_1, bindT_2, bindT_3, sub_tuple_0, sub_tuple_1, sub_list_0, bin_add_int, bin_sub_int, slice_list, slice_tuple, slice_str, unpack_1, unpack_2, unpack_3, thaw_no, X.has, hass, hasO, It.has, thawM_own, Nat.reduceBEq, Nat.reduceAdd, Bool.or_false, Bool.false_or, Bool.or_true, Bool.true_or, Bool.or_self, l4, e2, d6, s0, after, scalar]; rfl)]
    refine for_next (fun (pr : List Nat) ρ => ∃ x6, ρ = [.dat (.list (ns.map D.int)), .dat (.int (a : Nat)), .dat (.int (most : Nat)), .own (.list ((pre.map (lawCube ns a)).map .str)), .dat (.int (k : Nat)), .own (.list ((lawSigns ns a k pr.length).map .str)), sl x6, .un]) (evIt_rng (n := drawn ns (a + 1 + 4 * k) 3) (by simp -dsimp only [execs, exec, ev, evs, evO, evIf, evIt, List.map_cons, List.map_nil, thawM_dat, thaw_un, thaw_nil, thaw_sl, rep_0, rep_1, rep_2, rep_3, rep_4, rep_5, rep_6, rep_7, rep_8, rep_9, rep_10, rep_11, rep_12, rep_13, rep_14,
    List.append_nil, List.cons_append, List.nil_append, List.getElem?_cons_zero, List.getElem?_cons_succ, List.set_cons_zero, List.set_cons_succ, slotD, R.bnd_ok, R.bind_err, truth_bool, R.to_ok, R.to_err, then_next, then_ret, then_err, then_brk, res_ret, res_next, res_err, R.guard_true, R.clm_ok, fresh,
    isi_int_int, isi_int_bool, isi_int_str, isi_int_tuple, isi_int_list, isi_str_int, isi_str_bool, isi_str_str, isi_str_tuple, isi_str_list, isi_tuple_tuple, isi_tuple_str, isi_tuple_list, isi_list_list, isi_list_tuple, Bool.not_true, Bool.not_false,
    cmp_lt_int, cmp_gt_int, cmp_le_int, cmp_ge_int, cmp_eq_int, cmp_ne_int, cmp_lt_str, cmp_gt_str, cmp_eq_str, cmp_ne_str, cmp_in_sign, cmp_notin_sign, cmp_isnot_bool, cmp_is_bool, cmp_eq_bool, cmp_ne_bool,
    blt_len_list, blt_len_tuple, blt_len_str, items_list, items_tuple, items_str, seqItems_list, seqItems_tuple, seqItems_str, asInt_int, bindT_1, bindT_2, bindT_3, sub_tuple_0, sub_tuple_1, sub_list_0, bin_add_int, bin_sub_int, slice_list, slice_tuple, slice_str, unpack_1, unpack_2, unpack_3, thaw_no, X.has, hass, hasO, It.has, thawM_own, Nat.reduceBEq, Nat.reduceAdd, Bool.or_false, Bool.false_or, Bool.or_true, Bool.true_or, Bool.or_self, l4, e1, d3]) (by omega)) ?_ (fun pr po n ρ hn ⟨x6, hρ⟩ => ?_) (fun ρ' ⟨x6, hρ⟩ => ?_)
    · exact ⟨x6, by simp -dsimp only [execs, exec, ev, evs, evO, evIf, evIt, List.map_cons, List.map_nil, thawM_dat, thaw_un, thaw_nil, thaw_sl, rep_0, rep_1, rep_2, rep_3, rep_4, rep_5, rep_6, rep_7, rep_8, rep_9, rep_10, rep_11, rep_12, rep_13, rep_14,
    List.append_nil, List.cons_append, List.nil_append, List.getElem?_cons_zero, List.getElem?_cons_succ, List.set_cons_zero, List.set_cons_succ, slotD, R.bnd_ok, R.bind_err, truth_bool, R.to_ok, R.to_err, then_next, then_ret, then_err, then_brk, res_ret, res_next, res_err, R.guard_true, R.clm_ok, fresh,
    isi_int_int, isi_int_bool, isi_int_str, isi_int_tuple, isi_int_list, isi_str_int, isi_str_bool, isi_str_str, isi_str_tuple, isi_str_list, isi_tuple_tuple, isi_tuple_str, isi_tuple_list, isi_list_list, isi_list_tuple, Bool.not_true, Bool.not_false,
    cmp_lt_int, cmp_gt_int, cmp_le_int, cmp_ge_int, cmp_eq_int, cmp_ne_int, cmp_lt_str, cmp_gt_str, cmp_eq_str, cmp_ne_str, cmp_in_sign, cmp_notin_sign, cmp_isnot_bool, cmp_is_bool, cmp_eq_bool, cmp_ne_bool,
    blt_len_list, blt_len_tuple, blt_len_str, items_list, items_tuple, items_str, seqItems_list, seqItems_tuple, seqItems_str, asInt_int, bindT_1, bindT_2, bindT_3, sub_tuple_0, sub_tuple_1, sub_list_0, bin_add_int, bin_sub_int, slice_list, slice_tuple, slice_str, unpack_1, unpack_2, unpack_3, thaw_no, X.has, hass, hasO, It.has, thawM_own, Nat.reduceBEq, Nat.reduceAdd, Bool.or_false, Bool.false_or, Bool.or_true, Bool.true_or, Bool.or_self]; rfl⟩
    · subst hρ
      have en : n = pr.length := range_at hn
      have hlt : pr.length < 3 := by
        have := congrArg List.length hn
        rw [List.length_range, List.length_append, List.length_cons] at this
        omega
      have s1 := abcn_at (drawn_lt (ns := ns) (k := a + 3 + 4 * k + n) (many := 6) (by decide))
      have hf : fits (((lawSigns ns a k pr.length).map D.str).length + 1) = true := fits_ok (by unfold lawSigns; rw [List.length_map, List.length_cons, List.length_map, List.length_range]; omega)
      refine NextP.mk (ρ' := [.dat (.list (ns.map D.int)), .dat (.int (a : Nat)), .dat (.int (most : Nat)), .own (.list ((pre.map (lawCube ns a)).map .str)), .dat (.int (k : Nat)), .own (.list ((lawSigns ns a k (pr ++ [n]).length).map .str)), .dat (.int (n : Nat)), .un]) ?_ ⟨some (.int (n : Nat)), rfl⟩
      simp only [unpack_1, unpack_2, unpack_3, then_next, List.set_cons_zero, List.set_cons_succ]
      simp -dsimp only [execs, exec, ev, evs, evO, evIf, evIt, List.map_cons, List.map_nil, thawM_dat, thaw_un, thaw_nil, thaw_sl, rep_0, rep_1, rep_2, rep_3, rep_4, rep_5, rep_6, rep_7, rep_8, rep_9, rep_10, rep_11, rep_12, rep_13, rep_14,
    List.append_nil, List.cons_append, List.nil_append, List.getElem?_cons_zero, List.getElem?_cons_succ, List.set_cons_zero, List.set_cons_succ, slotD, R.bnd_ok, R.bind_err, truth_bool, R.to_ok, R.to_err, then_next, then_ret, then_err, then_brk, res_ret, res_next, res_err, R.guard_true, R.clm_ok, fresh,
    isi_int_int, isi_int_bool, isi_int_str, isi_int_tuple, isi_int_list, isi_str_int, isi_str_bool, isi_str_str, isi_str_tuple, isi_str_list, isi_tuple_tuple, isi_tuple_str, isi_tuple_list, isi_list_list, isi_list_tuple, Bool.not_true, Bool.not_false,
    cmp_lt_int, cmp_gt_int, cmp_le_int, cmp_ge_int, cmp_eq_int, cmp_ne_int, cmp_lt_str, cmp_gt_str, cmp_eq_str, cmp_ne_str, cmp_in_sign, cmp_notin_sign, cmp_isnot_bool, cmp_is_bool, cmp_eq_bool, cmp_ne_bool,
    blt_len_list, blt_len_tuple, blt_len_str, items_list, items_tuple, items_str, seqItems_list, seqItems_tuple, seqItems_str, asInt_int, bindT_1, bindT_2, bindT_3, sub_tuple_0, sub_tuple_1, sub_list_0, bin_add_int, bin_sub_int, slice_list, slice_tuple, slice_str, unpack_1, unpack_2, unpack_3, thaw_no, X.has, hass, hasO, It.has, thawM_own, Nat.reduceBEq, Nat.reduceAdd, Bool.or_false, Bool.false_or, Bool.or_true, Bool.true_or, Bool.or_self, l4, e3, d6, s1, after, scalar, hf]
      rw [List.length_append, List.length_singleton, en]
      unfold lawSigns
      rw [List.range_succ, List.map_append]
      simp
    · subst hρ
      rw [List.length_range]
      have hs : bltD .sortedSet [.list ((lawSigns ns a k (drawn ns (a + 1 + 4 * k) 3)).map .str)] = .ok (.list ((sortS (once (lawSigns ns a k (drawn ns (a + 1 + 4 * k) 3)))).map .str)) := sortSet_strs rfl (by unfold lawSigns; rw [List.length_cons, List.length_map, List.length_range]; omega)
      have hj : methD .join (.str []) [.list ((sortS (once (lawSigns ns a k (drawn ns (a + 1 + 4 * k) 3)))).map .str)] = .ok (.str (lawCube ns a k)) := join_nil (.inl rfl) (by have := (lawCube_ok ns a k).2.1; unfold lawCube at this; omega)
      have hf : fits (((pre.map (lawCube ns a)).map D.str).length + 1) = true := fits_ok (by rw [List.length_map, List.length_map]; omega)
      refine NextP.mk (ρ' := [.dat (.list (ns.map D.int)), .dat (.int (a : Nat)), .dat (.int (most : Nat)), .own (.list (((pre ++ [k]).map (lawCube ns a)).map .str)), .dat (.int (k : Nat)), .own (.list ((lawSigns ns a k (drawn ns (a + 1 + 4 * k) 3)).map .str)), sl x6, .un]) ?_ ⟨some (.int (k : Nat)), _, x6, rfl⟩
      simp -dsimp only [execs, exec, ev, evs, evO, evIf, evIt, List.map_cons, List.map_nil, thawM_dat, thaw_un, thaw_nil, thaw_sl, rep_0, rep_1, rep_2, rep_3, rep_4, rep_5, rep_6, rep_7, rep_8, rep_9, rep_10, rep_11, rep_12, rep_13, rep_14,
    List.append_nil, List.cons_append, List.nil_append, List.getElem?_cons_zero, List.getElem?_cons_succ, List.set_cons_zero, List.set_cons_succ, slotD, R.bnd_ok, R.bind_err, truth_bool, R.to_ok, R.to_err, then_next, then_ret, then_err, then_brk, res_ret, res_next, res_err, R.guard_true, R.clm_ok, fresh,
    isi_int_int, isi_int_bool, isi_int_str, isi_int_tuple, isi_int_list, isi_str_int, isi_str_bool, isi_str_str, isi_str_tuple, isi_str_list, isi_tuple_tuple, isi_tuple_str, isi_tuple_list, isi_list_list, isi_list_tuple, Bool.not_true, Bool.not_false,
    cmp_lt_int, cmp_gt_int, cmp_le_int, cmp_ge_int, cmp_eq_int, cmp_ne_int, cmp_lt_str, cmp_gt_str, cmp_eq_str, cmp_ne_str, cmp_in_sign, cmp_notin_sign, cmp_isnot_bool, cmp_is_bool, cmp_eq_bool, cmp_ne_bool,
    blt_len_list, blt_len_tuple, blt_len_str, items_list, items_tuple, items_str, seqItems_list, seqItems_tuple, seqItems_str, asInt_int, bindT_1, bindT_2, bindT_3, sub_tuple_0, sub_tuple_1, sub_list_0, bin_add_int, bin_sub_int, slice_list, slice_tuple, slice_str, unpack_1, unpack_2, unpack_3, thaw_no, X.has, hass, hasO, It.has, thawM_own, Nat.reduceBEq, Nat.reduceAdd, Bool.or_false, Bool.false_or, Bool.or_true, Bool.true_or, Bool.or_self, hs, mOk, hj, after, scalar, hf]
      rw [List.map_append, List.map_append]
      rfl
  · subst hρ
    have ht := twins_at (drawn_lt (ns := ns) (k := a + 30) (many := 5) (by decide))
    have e30 : (a : Int) + 30 = ((a + 30 : Nat) : Int) := by omega
    have hc : ∀ l : List D, bltD .tuple [.list l] = .ok (.tuple l) := fun _ => rfl
    rw [execs_next (ρ' := [.dat (.list (ns.map D.int)), .dat (.int (a : Nat)), .dat (.int (most : Nat)), .own (.list (((List.range (1 + drawn ns a most)).map (lawCube ns a)).map .str)), sl x4, s5, sl x6, .dat (dTw (lawTwins ns a))]) (by
      simp -dsimp only [execs, exec, ev, evs, evO, evIf, evIt, List.map_cons, List.map_nil, thawM_dat, thaw_un, thaw_nil, thaw_sl, rep_0, rep_1, rep_2, rep_3, rep_4, rep_5, rep_6, rep_7, rep_8, rep_9, rep_10, rep_11, rep_12, rep_13, rep_14,
    List.append_nil, List.cons_append, List.nil_append, List.getElem?_cons_zero, List.getElem?_cons_succ, List.set_cons_zero, List.set_cons_succ, slotD, R.bnd_ok, R.bind_err, truth_bool, R.to_ok, R.to_err, then_next, then_ret, then_err, then_brk, res_ret, res_next, res_err, R.guard_true, R.clm_ok, fresh,
    isi_int_int, isi_int_bool, isi_int_str, isi_int_tuple, isi_int_list, isi_str_int, isi_str_bool, isi_str_str, isi_str_tuple, isi_str_list, isi_tuple_tuple, isi_tuple_str, isi_tuple_list, isi_list_list, isi_list_tuple, Bool.not_true, Bool.not_false,
    cmp_lt_int, cmp_gt_int, cmp_le_int, cmp_ge_int, cmp_eq_int, cmp_ne_int, cmp_lt_str, cmp_gt_str, cmp_eq_str, cmp_ne_str, cmp_in_sign, cmp_notin_sign, cmp_isnot_bool, cmp_is_bool, cmp_eq_bool, cmp_ne_bool,
    blt_len_list, blt_len_tuple, blt_len_str, items_list, items_tuple, items_str, seqItems_list, seqItems_tuple, seqItems_str, asInt_int, bindT_1, bindT_2, bindT_3, sub_tuple_0, sub_tuple_1, sub_list_0, bin_add_int, bin_sub_int, slice_list, slice_tuple, slice_str, unpack_1, unpack_2, unpack_3, thaw_no, X.has, hass, hasO, It.has, thawM_own, Nat.reduceBEq, Nat.reduceAdd, Bool.or_false, Bool.false_or, Bool.or_true, Bool.true_or, Bool.or_self, e30, d5, ht, after, scalar, dTw]
      rfl)]
    simp -dsimp only [execs, exec, ev, evs, evO, evIf, evIt, List.map_cons, List.map_nil, thawM_dat, thaw_un, thaw_nil, thaw_sl, rep_0, rep_1, rep_2, rep_3, rep_4, rep_5, rep_6, rep_7, rep_8, rep_9, rep_10, rep_11, rep_12, rep_13, rep_14,
    List.append_nil, List.cons_append, List.nil_append, List.getElem?_cons_zero, List.getElem?_cons_succ, List.set_cons_zero, List.set_cons_succ, slotD, R.bnd_ok, R.bind_err, truth_bool, R.to_ok, R.to_err, then_next, then_ret, then_err, then_brk, res_ret, res_next, res_err, R.guard_true, R.clm_ok, fresh,
    isi_int_int, isi_int_bool, isi_int_str, isi_int_tuple, isi_int_list, isi_str_int, isi_str_bool, isi_str_str, isi_str_tuple, isi_str_list, isi_tuple_tuple, isi_tuple_str, isi_tuple_list, isi_list_list, isi_list_tuple, Bool.not_true, Bool.not_false,
    cmp_lt_int, cmp_gt_int, cmp_le_int, cmp_ge_int, cmp_eq_int, cmp_ne_int, cmp_lt_str, cmp_gt_str, cmp_eq_str, cmp_ne_str, cmp_in_sign, cmp_notin_sign, cmp_isnot_bool, cmp_is_bool, cmp_eq_bool, cmp_ne_bool,
    blt_len_list, blt_len_tuple, blt_len_str, items_list, items_tuple, items_str, seqItems_list, seqItems_tuple, seqItems_str, asInt_int, bindT_1, bindT_2, bindT_3, sub_tuple_0, sub_tuple_1, sub_list_0, bin_add_int, bin_sub_int, slice_list, slice_tuple, slice_str, unpack_1, unpack_2, unpack_3, thaw_no, X.has, hass, hasO, It.has, thawM_own, Nat.reduceBEq, Nat.reduceAdd, Bool.or_false, Bool.false_or, Bool.or_true, Bool.true_or, Bool.or_self, hc]
    rfl

def aabc (d : Nat) : Nat := [97, 97, 98, 99, 110, 54, 57, 117].getD d 0
theorem aabc_at {d : Nat} (h : d < 8) : subD (.str [97, 97, 98, 99, 110, 54, 57, 117]) (.int (d : Nat)) = .ok (.str [aabc d]) := by
  rw [sub_str_n]
  match d, h with
  | 0, _ => rfl
  | 1, _ => rfl
  | 2, _ => rfl
  | 3, _ => rfl
  | 4, _ => rfl
  | 5, _ => rfl
  | 6, _ => rfl
  | 7, _ => rfl
theorem aabc_in {d : Nat} (h : d < 8) : aabc d ∈ [97, 98, 99, 110, 54, 57, 117] := by
  match d, h with
  | 0, _ => decide
  | 1, _ => decide
  | 2, _ => decide
  | 3, _ => decide
  | 4, _ => decide
  | 5, _ => decide
  | 6, _ => decide
  | 7, _ => decide
def lawWord (ns : List Int) (a most : Nat) : W := (List.range (1 + drawn ns a most)).map fun k => aabc (drawn ns (a + 1 + k) 8)
theorem lawWord_in {ns : List Int} {a most : Nat} : ∀ c ∈ lawWord ns a most, c ∈ [97, 98, 99, 110, 54, 57, 117] := fun c hc => by
  obtain ⟨k, _, rfl⟩ := List.mem_map.mp hc
  exact aabc_in (drawn_lt (by decide))
theorem lawWord_len {ns : List Int} {a most : Nat} (h : 0 < most) : 1 ≤ (lawWord ns a most).length ∧ (lawWord ns a most).length ≤ most := by
  have := drawn_lt (ns := ns) (k := a) h
  unfold lawWord
  rw [List.length_map, List.length_range]
  omega
theorem lawSet_sign {c : Nat} (h : c ∈ [97, 98, 99, 110, 54, 57, 117]) : c ∈ SIGNS := by
  simp only [List.mem_cons, List.not_mem_nil, or_false] at h
  rcases h with e | e | e | e | e | e | e <;> (rw [e]; decide)
theorem law_word_ev {kk : Nat} {ns : List Int} {a most : Nat} (h0 : 0 < most) (hm : most ≤ 6) (hl : ns.length ≤ 1000) : (fx prog (kk + 2)).call f__law_word [.list (ns.map D.int), .int (a : Nat), .int (most : Nat)] = .ok (.str (lawWord ns a most)) := by
  rw [call_at (df := d__law_word) rfl, runDf_eq rfl]
  have hd := drawn_lt (ns := ns) (k := a) (many := most) h0
  have er : (1 : Int) + (drawn ns a most : Nat) = ((1 + drawn ns a most : Nat) : Int) := by omega
  have dm : (fx prog (kk + 1)).call f__law_drawn [.list (ns.map D.int), .int (a : Nat), .int (most : Nat)] = .ok (.int (drawn ns a most : Nat)) := drawn_ev h0 hl
  have e1 : ∀ k : Nat, (a : Int) + 1 + (k : Int) = ((a + 1 + k : Nat) : Int) := fun k => by omega
  have d8 : ∀ k : Nat, (fx prog (kk + 1)).call f__law_drawn [.list (ns.map D.int), .int (k : Nat), .int 8] = .ok (.int (drawn ns k 8 : Nat)) := fun k => drawn_ev (many := 8) (by decide) hl
  unfold d__law_word
  dsimp only
  rw [execs_next (ρ' := [.dat (.list (ns.map D.int)), .dat (.int (a : Nat)), .dat (.int (most : Nat)), .dat (.str []), .un]) (by simp -dsimp only [execs, exec, ev, evs, evO, evIf, evIt, List.map_cons, List.map_nil, thawM_dat, thaw_un, thaw_nil, thaw_sl, rep_0, rep_1, rep_2, rep_3, rep_4, rep_5, rep_6, rep_7, rep_8, rep_9, rep_10, rep_11, rep_12, rep_13, rep_14,
    List.append_nil, List.cons_append, List.nil_append, List.getElem?_cons_zero, List.getElem?_cons_succ, List.set_cons_zero, List.set_cons_succ, slotD, R.bnd_ok, R.bind_err, truth_bool, R.to_ok, R.to_err, then_next, then_ret, then_err, then_brk, res_ret, res_next, res_err, R.guard_true, R.clm_ok, fresh,
    isi_int_int, isi_int_bool, isi_int_str, isi_int_tuple, isi_int_list, isi_str_int, isi_str_bool, isi_str_str, isi_str_tuple, isi_str_list, isi_tuple_tuple, isi_tuple_str, isi_tuple_list, isi_list_list, isi_list_tuple, Bool.not_true, Bool.not_false,
    cmp_lt_int, cmp_gt_int, cmp_le_int, cmp_ge_int, cmp_eq_int, cmp_ne_int, cmp_lt_str, cmp_gt_str, cmp_eq_str, cmp_ne_str, cmp_in_sign, cmp_notin_sign, cmp_isnot_bool, cmp_is_bool, cmp_eq_bool, cmp_ne_bool,
    blt_len_list, blt_len_tuple, blt_len_str, items_list, items_tuple, items_str, seqItems_list, seqItems_tuple, seqItems_str, asInt_int, bindT_1, bindT_2, bindT_3, sub_tuple_0, sub_tuple_1, sub_list_0, bin_add_int, bin_sub_int, slice_list, slice_tuple, slice_str, unpack_1, unpack_2, unpack_3, thaw_no, X.has, hass, hasO, It.has, thawM_own, Nat.reduceBEq, Nat.reduceAdd, Bool.or_false, Bool.false_or, Bool.or_true, Bool.true_or, Bool.or_self, after, scalar])]
  refine for_res (fun (pre : List Nat) ρ => ∃ x4, ρ = [.dat (.list (ns.map D.int)), .dat (.int (a : Nat)), .dat (.int (most : Nat)), .dat (.str (pre.map fun k => aabc (drawn ns (a + 1 + k) 8))), sl x4]) (evIt_rng (n := 1 + drawn ns a most) (by simp -dsimp only [execs, exec, ev, evs, evO, evIf, evIt, List.map_cons, List.map_nil, thawM_dat, thaw_un, thaw_nil, thaw_sl, rep_0, rep_1, rep_2, rep_3, rep_4, rep_5, rep_6, rep_7, rep_8, rep_9, rep_10, rep_11, rep_12, rep_13, rep_14,
    List.append_nil, List.cons_append, List.nil_append, List.getElem?_cons_zero, List.getElem?_cons_succ, List.set_cons_zero, List.set_cons_succ, slotD, R.bnd_ok, R.bind_err, truth_bool, R.to_ok, R.to_err, then_next, then_ret, then_err, then_brk, res_ret, res_next, res_err, R.guard_true, R.clm_ok, fresh,
    isi_int_int, isi_int_bool, isi_int_str, isi_int_tuple, isi_int_list, isi_str_int, isi_str_bool, isi_str_str, isi_str_tuple, isi_str_list, isi_tuple_tuple, isi_tuple_str, isi_tuple_list, isi_list_list, isi_list_tuple, Bool.not_true, Bool.not_false,
    cmp_lt_int, cmp_gt_int, cmp_le_int, cmp_ge_int, cmp_eq_int, cmp_ne_int, cmp_lt_str, cmp_gt_str, cmp_eq_str, cmp_ne_str, cmp_in_sign, cmp_notin_sign, cmp_isnot_bool, cmp_is_bool, cmp_eq_bool, cmp_ne_bool,
    blt_len_list, blt_len_tuple, blt_len_str, items_list, items_tuple, items_str, seqItems_list, seqItems_tuple, seqItems_str, asInt_int, bindT_1, bindT_2, bindT_3, sub_tuple_0, sub_tuple_1, sub_list_0, bin_add_int, bin_sub_int, slice_list, slice_tuple, slice_str, unpack_1, unpack_2, unpack_3, thaw_no, X.has, hass, hasO, It.has, thawM_own, Nat.reduceBEq, Nat.reduceAdd, Bool.or_false, Bool.false_or, Bool.or_true, Bool.true_or, Bool.or_self, dm, er]) (by omega)) ?_ (fun pre post k ρ hk ⟨x4, hρ⟩ => ?_) (fun ρ' ⟨x4, hρ⟩ => ?_)
  · exact ⟨none, by simp -dsimp only [execs, exec, ev, evs, evO, evIf, evIt, List.map_cons, List.map_nil, thawM_dat, thaw_un, thaw_nil, thaw_sl, rep_0, rep_1, rep_2, rep_3, rep_4, rep_5, rep_6, rep_7, rep_8, rep_9, rep_10, rep_11, rep_12, rep_13, rep_14,
    List.append_nil, List.cons_append, List.nil_append, List.getElem?_cons_zero, List.getElem?_cons_succ, List.set_cons_zero, List.set_cons_succ, slotD, R.bnd_ok, R.bind_err, truth_bool, R.to_ok, R.to_err, then_next, then_ret, then_err, then_brk, res_ret, res_next, res_err, R.guard_true, R.clm_ok, fresh,
    isi_int_int, isi_int_bool, isi_int_str, isi_int_tuple, isi_int_list, isi_str_int, isi_str_bool, isi_str_str, isi_str_tuple, isi_str_list, isi_tuple_tuple, isi_tuple_str, isi_tuple_list, isi_list_list, isi_list_tuple, Bool.not_true, Bool.not_false,
    cmp_lt_int, cmp_gt_int, cmp_le_int, cmp_ge_int, cmp_eq_int, cmp_ne_int, cmp_lt_str, cmp_gt_str, cmp_eq_str, cmp_ne_str, cmp_in_sign, cmp_notin_sign, cmp_isnot_bool, cmp_is_bool, cmp_eq_bool, cmp_ne_bool,
    blt_len_list, blt_len_tuple, blt_len_str, items_list, items_tuple, items_str, seqItems_list, seqItems_tuple, seqItems_str, asInt_int, bindT_1, bindT_2, bindT_3, sub_tuple_0, sub_tuple_1, sub_list_0, bin_add_int, bin_sub_int, slice_list, slice_tuple, slice_str, unpack_1, unpack_2, unpack_3, thaw_no, X.has, hass, hasO, It.has, thawM_own, Nat.reduceBEq, Nat.reduceAdd, Bool.or_false, Bool.false_or, Bool.or_true, Bool.true_or, Bool.or_self]; rfl⟩
  · subst hρ
    have hpre : pre.length < 6 := by
      have := congrArg List.length hk
      rw [List.length_range, List.length_append, List.length_cons] at this
      omega
    have s0 := aabc_at (drawn_lt (ns := ns) (k := a + 1 + k) (many := 8) (by decide))
    refine NextP.mk (ρ' := [.dat (.list (ns.map D.int)), .dat (.int (a : Nat)), .dat (.int (most : Nat)), .dat (.str ((pre ++ [k]).map fun k => aabc (drawn ns (a + 1 + k) 8))), .dat (.int (k : Nat))]) ?_ ⟨some (.int (k : Nat)), rfl⟩
    have hb : binD .add (.str (pre.map fun k => aabc (drawn ns (a + 1 + k) 8))) (.str [aabc (drawn ns (a + 1 + k) 8)]) = .ok (.str ((pre ++ [k]).map fun k => aabc (drawn ns (a + 1 + k) 8))) := by
      rw [bin_add_str (by rw [List.length_map, List.length_singleton]; omega), List.map_append]
      rfl
    simp only [unpack_1, unpack_2, unpack_3, then_next, List.set_cons_zero, List.set_cons_succ]
    simp -dsimp only [execs, exec, ev, evs, evO, evIf, evIt, List.map_cons, List.map_nil, thawM_dat, thaw_un, thaw_nil, thaw_sl, rep_0, rep_1, rep_2, rep_3, rep_4, rep_5, rep_6, rep_7, rep_8, rep_9, rep_10, rep_11, rep_12, rep_13, rep_14,
    List.append_nil, List.cons_append, List.nil_append, List.getElem?_cons_zero, List.getElem?_cons_succ, List.set_cons_zero, List.set_cons_succ, slotD, R.bnd_ok, R.bind_err, truth_bool, R.to_ok, R.to_err, then_next, then_ret, then_err, then_brk, res_ret, res_next, res_err, R.guard_true, R.clm_ok, fresh,
    isi_int_int, isi_int_bool, isi_int_str, isi_int_tuple, isi_int_list, isi_str_int, isi_str_bool, isi_str_str, isi_str_tuple, isi_str_list, isi_tuple_tuple, isi_tuple_str, isi_tuple_list, isi_list_list, isi_list_tuple, Bool.not_true, Bool.not_false,
    cmp_lt_int, cmp_gt_int, cmp_le_int, cmp_ge_int, cmp_eq_int, cmp_ne_int, cmp_lt_str, cmp_gt_str, cmp_eq_str, cmp_ne_str, cmp_in_sign, cmp_notin_sign, cmp_isnot_bool, cmp_is_bool, cmp_eq_bool, cmp_ne_bool,
    blt_len_list, blt_len_tuple, blt_len_str, items_list, items_tuple, items_str, seqItems_list, seqItems_tuple, seqItems_str, asInt_int, bindT_1, bindT_2, bindT_3, sub_tuple_0, sub_tuple_1, sub_list_0, bin_add_int, bin_sub_int, slice_list, slice_tuple, slice_str, unpack_1, unpack_2, unpack_3, thaw_no, X.has, hass, hasO, It.has, thawM_own, Nat.reduceBEq, Nat.reduceAdd, Bool.or_false, Bool.false_or, Bool.or_true, Bool.true_or, Bool.or_self, e1, d8, s0, hb, after, scalar]
  · subst hρ
    simp -dsimp only [execs, exec, ev, evs, evO, evIf, evIt, List.map_cons, List.map_nil, thawM_dat, thaw_un, thaw_nil, thaw_sl, rep_0, rep_1, rep_2, rep_3, rep_4, rep_5, rep_6, rep_7, rep_8, rep_9, rep_10, rep_11, rep_12, rep_13, rep_14,
    List.append_nil, List.cons_append, List.nil_append, List.getElem?_cons_zero, List.getElem?_cons_succ, List.set_cons_zero, List.set_cons_succ, slotD, R.bnd_ok, R.bind_err, truth_bool, R.to_ok, R.to_err, then_next, then_ret, then_err, then_brk, res_ret, res_next, res_err, R.guard_true, R.clm_ok, fresh,
    isi_int_int, isi_int_bool, isi_int_str, isi_int_tuple, isi_int_list, isi_str_int, isi_str_bool, isi_str_str, isi_str_tuple, isi_str_list, isi_tuple_tuple, isi_tuple_str, isi_tuple_list, isi_list_list, isi_list_tuple, Bool.not_true, Bool.not_false,
    cmp_lt_int, cmp_gt_int, cmp_le_int, cmp_ge_int, cmp_eq_int, cmp_ne_int, cmp_lt_str, cmp_gt_str, cmp_eq_str, cmp_ne_str, cmp_in_sign, cmp_notin_sign, cmp_isnot_bool, cmp_is_bool, cmp_eq_bool, cmp_ne_bool,
    blt_len_list, blt_len_tuple, blt_len_str, items_list, items_tuple, items_str, seqItems_list, seqItems_tuple, seqItems_str, asInt_int, bindT_1, bindT_2, bindT_3, sub_tuple_0, sub_tuple_1, sub_list_0, bin_add_int, bin_sub_int, slice_list, slice_tuple, slice_str, unpack_1, unpack_2, unpack_3, thaw_no, X.has, hass, hasO, It.has, thawM_own, Nat.reduceBEq, Nat.reduceAdd, Bool.or_false, Bool.false_or, Bool.or_true, Bool.true_or, Bool.or_self]
    rfl
theorem filter_one {s : Nat} : ∀ {t : Tw}, (t.flatMap pw).Nodup → ∀ p r, (t.filter fun p => (pw p).contains s) = p :: r → r = []
  | [], _, p, r, e => by cases e
  | q :: t, h, p, r, e => by
    rw [List.flatMap_cons, List.nodup_append] at h
    rw [List.filter_cons] at e
    split at e
    · rename_i hq
      cases e
      refine List.filter_eq_nil_iff.mpr fun x hx hc => ?_
      refine h.2.2 s (List.contains_iff_mem.mp hq) s (List.mem_flatMap.mpr ⟨x, hx, List.contains_iff_mem.mp hc⟩) rfl
    · exact filter_one h.2.1 p r e
theorem strs_ne_nil (l : List W) : cmpD .ne (.list (l.map D.str)) (.list []) = .ok (!l.isEmpty) := by
  refine (cmp_ne_ok (t := l.isEmpty) ((eqD_ok ?_ rfl).trans ?_))
  · rw [shp_list]
    exact shp_all (n := 59) (e := D.str) (fun _ => shp_str) l
  · rw [eqB_list]
    cases l <;> rfl
theorem law_does_ev {k : Nat} {t : Tw} {c : W} {s : Nat} (h : OkT t) (hs : s ≠ 32) : (fx prog (k + 1)).call f__law_does [.str c, dTw t, .str [s]] = .ok (.bool (shows c t s)) := by
  rw [call_at (df := d__law_does) rfl, runDf_eq rfl]
  have key := twin_find (s := s) (t := t) (okT_ne h)
  have one := filter_one (s := s) (t := t) h.nd
  unfold d__law_does
  dsimp only
  have ha : ∀ m : List D, m.length ≤ 4 → binD .add (.list [.str [s]]) (.list m) = .ok (.list (.str [s] :: m)) := fun m hm => bin_add_list (by rw [List.length_singleton]; omega)
  have hf := List.length_filter_le (fun p => (pw p).contains s) t
  have h4 := h.few
  rw [execs_next (ρ' := [.dat (.str c), .dat (dTw t), .dat (.str [s]), .dat (.list (([s] :: (t.filter fun p => (pw p).contains s).map fun p => (pw p).filter fun x => x != s).map D.str))]) (by
    unfold dTw
    simp -dsimp only [execs, exec, ev, evs, evO, evIf, evIt, List.map_cons, List.map_nil, thawM_dat, thaw_un, thaw_nil, thaw_sl, rep_0, rep_1, rep_2, rep_3, rep_4, rep_5, rep_6, rep_7, rep_8, rep_9, rep_10, rep_11, rep_12, rep_13, rep_14,
    List.append_nil, List.cons_append, List.nil_append, List.getElem?_cons_zero, List.getElem?_cons_succ, List.set_cons_zero, List.set_cons_succ, slotD, R.bnd_ok, R.bind_err, truth_bool, R.to_ok, R.to_err, then_next, then_ret, then_err, then_brk, res_ret, res_next, res_err, R.guard_true, R.clm_ok, fresh,
    isi_int_int, isi_int_bool, isi_int_str, isi_int_tuple, isi_int_list, isi_str_int, isi_str_bool, isi_str_str, isi_str_tuple, isi_str_list, isi_tuple_tuple, isi_tuple_str, isi_tuple_list, isi_list_list, isi_list_tuple, Bool.not_true, Bool.not_false,
    cmp_lt_int, cmp_gt_int, cmp_le_int, cmp_ge_int, cmp_eq_int, cmp_ne_int, cmp_lt_str, cmp_gt_str, cmp_eq_str, cmp_ne_str, cmp_in_sign, cmp_notin_sign, cmp_isnot_bool, cmp_is_bool, cmp_eq_bool, cmp_ne_bool,
    blt_len_list, blt_len_tuple, blt_len_str, items_list, items_tuple, items_str, seqItems_list, seqItems_tuple, seqItems_str, asInt_int, bindT_1, bindT_2, bindT_3, sub_tuple_0, sub_tuple_1, sub_list_0, bin_add_int, bin_sub_int, slice_list, slice_tuple, slice_str, unpack_1, unpack_2, unpack_3, thaw_no, X.has, hass, hasO, It.has, thawM_own, Nat.reduceBEq, Nat.reduceAdd, Bool.or_false, Bool.false_or, Bool.or_true, Bool.true_or, Bool.or_self]
    rw [filtR_map (p := fun p : Nat × Nat => (pw p).contains s) (g := fun p => D.str ((pw p).filter fun x => x != s)) (fun p hp => by
      have e3 : replD (.str (pw p)) (.str [s]) = .ok (.str ((pw p).filter fun x => x != s)) := by
        show R.guard (s != 32 && true) (R.ok (D.str ((pw p).filter fun x => x != s))) = _
        rw [show (s != 32) = true from by simpa using hs]
        rfl
      simp -dsimp only [execs, exec, ev, evs, evO, evIf, evIt, List.map_cons, List.map_nil, thawM_dat, thaw_un, thaw_nil, thaw_sl, rep_0, rep_1, rep_2, rep_3, rep_4, rep_5, rep_6, rep_7, rep_8, rep_9, rep_10, rep_11, rep_12, rep_13, rep_14,
    List.append_nil, List.cons_append, List.nil_append, List.getElem?_cons_zero, List.getElem?_cons_succ, List.set_cons_zero, List.set_cons_succ, slotD, R.bnd_ok, R.bind_err, truth_bool, R.to_ok, R.to_err, then_next, then_ret, then_err, then_brk, res_ret, res_next, res_err, R.guard_true, R.clm_ok, fresh,
    isi_int_int, isi_int_bool, isi_int_str, isi_int_tuple, isi_int_list, isi_str_int, isi_str_bool, isi_str_str, isi_str_tuple, isi_str_list, isi_tuple_tuple, isi_tuple_str, isi_tuple_list, isi_list_list, isi_list_tuple, Bool.not_true, Bool.not_false,
    cmp_lt_int, cmp_gt_int, cmp_le_int, cmp_ge_int, cmp_eq_int, cmp_ne_int, cmp_lt_str, cmp_gt_str, cmp_eq_str, cmp_ne_str, cmp_in_sign, cmp_notin_sign, cmp_isnot_bool, cmp_is_bool, cmp_eq_bool, cmp_ne_bool,
    blt_len_list, blt_len_tuple, blt_len_str, items_list, items_tuple, items_str, seqItems_list, seqItems_tuple, seqItems_str, asInt_int, bindT_1, bindT_2, bindT_3, sub_tuple_0, sub_tuple_1, sub_list_0, bin_add_int, bin_sub_int, slice_list, slice_tuple, slice_str, unpack_1, unpack_2, unpack_3, thaw_no, X.has, hass, hasO, It.has, thawM_own, Nat.reduceBEq, Nat.reduceAdd, Bool.or_false, Bool.false_or, Bool.or_true, Bool.true_or, Bool.or_self]
      cases (pw p).contains s
      · rfl
      · simp -dsimp only [execs, exec, ev, evs, evO, evIf, evIt, List.map_cons, List.map_nil, thawM_dat, thaw_un, thaw_nil, thaw_sl, rep_0, rep_1, rep_2, rep_3, rep_4, rep_5, rep_6, rep_7, rep_8, rep_9, rep_10, rep_11, rep_12, rep_13, rep_14,
    List.append_nil, List.cons_append, List.nil_append, List.getElem?_cons_zero, List.getElem?_cons_succ, List.set_cons_zero, List.set_cons_succ, slotD, R.bnd_ok, R.bind_err, truth_bool, R.to_ok, R.to_err, then_next, then_ret, then_err, then_brk, res_ret, res_next, res_err, R.guard_true, R.clm_ok, fresh,
    isi_int_int, isi_int_bool, isi_int_str, isi_int_tuple, isi_int_list, isi_str_int, isi_str_bool, isi_str_str, isi_str_tuple, isi_str_list, isi_tuple_tuple, isi_tuple_str, isi_tuple_list, isi_list_list, isi_list_tuple, Bool.not_true, Bool.not_false,
    cmp_lt_int, cmp_gt_int, cmp_le_int, cmp_ge_int, cmp_eq_int, cmp_ne_int, cmp_lt_str, cmp_gt_str, cmp_eq_str, cmp_ne_str, cmp_in_sign, cmp_notin_sign, cmp_isnot_bool, cmp_is_bool, cmp_eq_bool, cmp_ne_bool,
    blt_len_list, blt_len_tuple, blt_len_str, items_list, items_tuple, items_str, seqItems_list, seqItems_tuple, seqItems_str, asInt_int, bindT_1, bindT_2, bindT_3, sub_tuple_0, sub_tuple_1, sub_list_0, bin_add_int, bin_sub_int, slice_list, slice_tuple, slice_str, unpack_1, unpack_2, unpack_3, thaw_no, X.has, hass, hasO, It.has, thawM_own, Nat.reduceBEq, Nat.reduceAdd, Bool.or_false, Bool.false_or, Bool.or_true, Bool.true_or, Bool.or_self, isStr, e3]
        rfl)]
    simp -dsimp only [execs, exec, ev, evs, evO, evIf, evIt, List.map_cons, List.map_nil, thawM_dat, thaw_un, thaw_nil, thaw_sl, rep_0, rep_1, rep_2, rep_3, rep_4, rep_5, rep_6, rep_7, rep_8, rep_9, rep_10, rep_11, rep_12, rep_13, rep_14,
    List.append_nil, List.cons_append, List.nil_append, List.getElem?_cons_zero, List.getElem?_cons_succ, List.set_cons_zero, List.set_cons_succ, slotD, R.bnd_ok, R.bind_err, truth_bool, R.to_ok, R.to_err, then_next, then_ret, then_err, then_brk, res_ret, res_next, res_err, R.guard_true, R.clm_ok, fresh,
    isi_int_int, isi_int_bool, isi_int_str, isi_int_tuple, isi_int_list, isi_str_int, isi_str_bool, isi_str_str, isi_str_tuple, isi_str_list, isi_tuple_tuple, isi_tuple_str, isi_tuple_list, isi_list_list, isi_list_tuple, Bool.not_true, Bool.not_false,
    cmp_lt_int, cmp_gt_int, cmp_le_int, cmp_ge_int, cmp_eq_int, cmp_ne_int, cmp_lt_str, cmp_gt_str, cmp_eq_str, cmp_ne_str, cmp_in_sign, cmp_notin_sign, cmp_isnot_bool, cmp_is_bool, cmp_eq_bool, cmp_ne_bool,
    blt_len_list, blt_len_tuple, blt_len_str, items_list, items_tuple, items_str, seqItems_list, seqItems_tuple, seqItems_str, asInt_int, bindT_1, bindT_2, bindT_3, sub_tuple_0, sub_tuple_1, sub_list_0, bin_add_int, bin_sub_int, slice_list, slice_tuple, slice_str, unpack_1, unpack_2, unpack_3, thaw_no, X.has, hass, hasO, It.has, thawM_own, Nat.reduceBEq, Nat.reduceAdd, Bool.or_false, Bool.false_or, Bool.or_true, Bool.true_or, Bool.or_self, ha _ (show (List.map (fun p => D.str ((pw p).filter fun x => x != s)) (t.filter fun p => (pw p).contains s)).length ≤ 4 by rw [List.length_map]; omega), after, scalar]
    rw [List.map_map]
    rfl)]
  have fin : ∀ l : List W, (∀ x ∈ l, ∃ d, x = [d]) → (execs (fx prog k) [.ret (.cmp .ne (.lc (.var 0) (.mk 1 (.val (.var 3)) (some (.cmp .in_ (.var 0) (.var 1))))) (.list []))] [.dat (.str c), .dat (dTw t), .dat (.str [s]), .dat (.list (l.map D.str))]).res = .ok (.bool (l.any fun x => c.contains (x.headD 0))) := fun l hl => by
    simp -dsimp only [execs, exec, ev, evs, evO, evIf, evIt, List.map_cons, List.map_nil, thawM_dat, thaw_un, thaw_nil, thaw_sl, rep_0, rep_1, rep_2, rep_3, rep_4, rep_5, rep_6, rep_7, rep_8, rep_9, rep_10, rep_11, rep_12, rep_13, rep_14,
    List.append_nil, List.cons_append, List.nil_append, List.getElem?_cons_zero, List.getElem?_cons_succ, List.set_cons_zero, List.set_cons_succ, slotD, R.bnd_ok, R.bind_err, truth_bool, R.to_ok, R.to_err, then_next, then_ret, then_err, then_brk, res_ret, res_next, res_err, R.guard_true, R.clm_ok, fresh,
    isi_int_int, isi_int_bool, isi_int_str, isi_int_tuple, isi_int_list, isi_str_int, isi_str_bool, isi_str_str, isi_str_tuple, isi_str_list, isi_tuple_tuple, isi_tuple_str, isi_tuple_list, isi_list_list, isi_list_tuple, Bool.not_true, Bool.not_false,
    cmp_lt_int, cmp_gt_int, cmp_le_int, cmp_ge_int, cmp_eq_int, cmp_ne_int, cmp_lt_str, cmp_gt_str, cmp_eq_str, cmp_ne_str, cmp_in_sign, cmp_notin_sign, cmp_isnot_bool, cmp_is_bool, cmp_eq_bool, cmp_ne_bool,
    blt_len_list, blt_len_tuple, blt_len_str, items_list, items_tuple, items_str, seqItems_list, seqItems_tuple, seqItems_str, asInt_int, bindT_1, bindT_2, bindT_3, sub_tuple_0, sub_tuple_1, sub_list_0, bin_add_int, bin_sub_int, slice_list, slice_tuple, slice_str, unpack_1, unpack_2, unpack_3, thaw_no, X.has, hass, hasO, It.has, thawM_own, Nat.reduceBEq, Nat.reduceAdd, Bool.or_false, Bool.false_or, Bool.or_true, Bool.true_or, Bool.or_self]
    rw [filtR_map (p := fun x : W => c.contains (x.headD 0)) (g := fun x => D.str x) (fun x hx => by
      obtain ⟨d, rfl⟩ := hl x hx
      simp -dsimp only [execs, exec, ev, evs, evO, evIf, evIt, List.map_cons, List.map_nil, thawM_dat, thaw_un, thaw_nil, thaw_sl, rep_0, rep_1, rep_2, rep_3, rep_4, rep_5, rep_6, rep_7, rep_8, rep_9, rep_10, rep_11, rep_12, rep_13, rep_14,
    List.append_nil, List.cons_append, List.nil_append, List.getElem?_cons_zero, List.getElem?_cons_succ, List.set_cons_zero, List.set_cons_succ, slotD, R.bnd_ok, R.bind_err, truth_bool, R.to_ok, R.to_err, then_next, then_ret, then_err, then_brk, res_ret, res_next, res_err, R.guard_true, R.clm_ok, fresh,
    isi_int_int, isi_int_bool, isi_int_str, isi_int_tuple, isi_int_list, isi_str_int, isi_str_bool, isi_str_str, isi_str_tuple, isi_str_list, isi_tuple_tuple, isi_tuple_str, isi_tuple_list, isi_list_list, isi_list_tuple, Bool.not_true, Bool.not_false,
    cmp_lt_int, cmp_gt_int, cmp_le_int, cmp_ge_int, cmp_eq_int, cmp_ne_int, cmp_lt_str, cmp_gt_str, cmp_eq_str, cmp_ne_str, cmp_in_sign, cmp_notin_sign, cmp_isnot_bool, cmp_is_bool, cmp_eq_bool, cmp_ne_bool,
    blt_len_list, blt_len_tuple, blt_len_str, items_list, items_tuple, items_str, seqItems_list, seqItems_tuple, seqItems_str, asInt_int, bindT_1, bindT_2, bindT_3, sub_tuple_0, sub_tuple_1, sub_list_0, bin_add_int, bin_sub_int, slice_list, slice_tuple, slice_str, unpack_1, unpack_2, unpack_3, thaw_no, X.has, hass, hasO, It.has, thawM_own, Nat.reduceBEq, Nat.reduceAdd, Bool.or_false, Bool.false_or, Bool.or_true, Bool.true_or, Bool.or_self]
      show (match c.contains d with | true => _ | false => _) = R.ok (if c.contains d = true then _ else _)
      cases c.contains d <;> rfl)]
    have := strs_ne_nil (l.filter fun x => c.contains (x.headD 0))
    simp -dsimp only [execs, exec, ev, evs, evO, evIf, evIt, List.map_cons, List.map_nil, thawM_dat, thaw_un, thaw_nil, thaw_sl, rep_0, rep_1, rep_2, rep_3, rep_4, rep_5, rep_6, rep_7, rep_8, rep_9, rep_10, rep_11, rep_12, rep_13, rep_14,
    List.append_nil, List.cons_append, List.nil_append, List.getElem?_cons_zero, List.getElem?_cons_succ, List.set_cons_zero, List.set_cons_succ, slotD, R.bnd_ok, R.bind_err, truth_bool, R.to_ok, R.to_err, then_next, then_ret, then_err, then_brk, res_ret, res_next, res_err, R.guard_true, R.clm_ok, fresh,
    isi_int_int, isi_int_bool, isi_int_str, isi_int_tuple, isi_int_list, isi_str_int, isi_str_bool, isi_str_str, isi_str_tuple, isi_str_list, isi_tuple_tuple, isi_tuple_str, isi_tuple_list, isi_list_list, isi_list_tuple, Bool.not_true, Bool.not_false,
    cmp_lt_int, cmp_gt_int, cmp_le_int, cmp_ge_int, cmp_eq_int, cmp_ne_int, cmp_lt_str, cmp_gt_str, cmp_eq_str, cmp_ne_str, cmp_in_sign, cmp_notin_sign, cmp_isnot_bool, cmp_is_bool, cmp_eq_bool, cmp_ne_bool,
    blt_len_list, blt_len_tuple, blt_len_str, items_list, items_tuple, items_str, seqItems_list, seqItems_tuple, seqItems_str, asInt_int, bindT_1, bindT_2, bindT_3, sub_tuple_0, sub_tuple_1, sub_list_0, bin_add_int, bin_sub_int, slice_list, slice_tuple, slice_str, unpack_1, unpack_2, unpack_3, thaw_no, X.has, hass, hasO, It.has, thawM_own, Nat.reduceBEq, Nat.reduceAdd, Bool.or_false, Bool.false_or, Bool.or_true, Bool.true_or, Bool.or_self, this]
    congr 2
    rw [Bool.eq_iff_iff]
    simp [List.isEmpty_iff, List.filter_eq_nil_iff]
  cases e : (t.filter fun p => (pw p).contains s) with
  | nil =>
    rw [e] at key
    refine (fin [[s]] (by simp)).trans ?_
    unfold shows
    rw [show twinOf t s = s from key]
    show R.ok (D.bool (c.contains s || false)) = R.ok (D.bool (c.contains s || c.contains s))
    cases c.contains s <;> rfl
  | cons p r =>
    have := one p r e
    subst this
    rw [e] at key
    have hm : (List.map (fun p => (pw p).filter fun x => x != s) [p]) = [[twinOf t s]] := by
      show [(pw p).filter fun x => x != s] = _
      rw [show (pw p).filter (fun x => x != s) = [twinOf t s] from key]
    rw [hm]
    refine (fin [[s], [twinOf t s]] (by simp)).trans ?_
    show R.ok (D.bool (c.contains s || (c.contains (twinOf t s) || false))) = R.ok (D.bool (c.contains s || c.contains (twinOf t s)))
    rw [Bool.or_false]

def badBoxes : List D := [.none, .tuple [], .tuple [.tuple [], .tuple []], .tuple [.tuple [.str []], .tuple []], .tuple [.tuple [.str [98, 97]], .tuple []], .tuple [.tuple [.str [97, 97]], .tuple []], .tuple [.tuple [.str [65]], .tuple []],
  .tuple [.list [.str [97]], .tuple []], .tuple [.tuple [.str [97]], .list []], .tuple [.tuple [.str [97], .str [97], .str [97], .str [97], .str [97], .str [97], .str [97]], .tuple []],
  .tuple [.tuple [.str [97, 98, 99, 100, 101, 102, 103]], .tuple []], .tuple [.tuple [.str [97]], .tuple [.str [57, 54]]], .tuple [.tuple [.str [97]], .tuple [.str [54, 57], .str [54, 97]]],
  .tuple [.tuple [.str [97]], .tuple [.str [110, 117], .str [54, 57]]], .tuple [.tuple [.str [97]], .tuple [.str [54]]], .list [.tuple [.str [97]], .tuple []]]
theorem mem_at {α : Type} {l : List α} {d : Nat} (h : d < l.length) : ∃ x ∈ l, l[d]? = some x := ⟨l[d], List.getElem_mem h, List.getElem?_eq_getElem h⟩
theorem law_badbox_ev {kk : Nat} {ns : List Int} {a : Nat} (hl : ns.length ≤ 1000) : ∃ x ∈ badBoxes, (fx prog (kk + 2)).call f__law_badbox [.list (ns.map D.int), .int (a : Nat)] = .ok x := by
  obtain ⟨x, hx, e⟩ := mem_at (l := badBoxes) (d := drawn ns a 16) (drawn_lt (by decide))
  refine ⟨x, hx, ?_⟩
  rw [call_at (df := d__law_badbox) rfl, runDf_eq rfl]
  have d16 : (fx prog (kk + 1)).call f__law_drawn [.list (ns.map D.int), .int (a : Nat), .int 16] = .ok (.int (drawn ns a 16 : Nat)) := drawn_ev (many := 16) (by decide) hl
  have sx : subD (.list badBoxes) (.int (drawn ns a 16 : Nat)) = .ok x := by rw [sub_list_n, e]; rfl
  unfold d__law_badbox
  dsimp only
  rw [execs_next rfl, execs_next rfl, execs_next rfl, execs_next rfl, execs_ret (d := x) ?_]
  · rfl
  · show exec _ _ [.dat (.list (ns.map D.int)), .dat (.int (a : Nat)), .dat (.list badBoxes)] = _
    simp -dsimp only [execs, exec, ev, evs, evO, evIf, evIt, List.map_cons, List.map_nil, thawM_dat, thaw_un, thaw_nil, thaw_sl, rep_0, rep_1, rep_2, rep_3, rep_4, rep_5, rep_6, rep_7, rep_8, rep_9, rep_10, rep_11, rep_12, rep_13, rep_14,
    List.append_nil, List.cons_append, List.nil_append, List.getElem?_cons_zero, List.getElem?_cons_succ, List.set_cons_zero, List.set_cons_succ, slotD, R.bnd_ok, R.bind_err, truth_bool, R.to_ok, R.to_err, then_next, then_ret, then_err, then_brk, res_ret, res_next, res_err, R.guard_true, R.clm_ok, fresh,
    isi_int_int, isi_int_bool, isi_int_str, isi_int_tuple, isi_int_list, isi_str_int, isi_str_bool, isi_str_str, isi_str_tuple, isi_str_list, isi_tuple_tuple, isi_tuple_str, isi_tuple_list, isi_list_list, isi_list_tuple, Bool.not_true, Bool.not_false,
    cmp_lt_int, cmp_gt_int, cmp_le_int, cmp_ge_int, cmp_eq_int, cmp_ne_int, cmp_lt_str, cmp_gt_str, cmp_eq_str, cmp_ne_str, cmp_in_sign, cmp_notin_sign, cmp_isnot_bool, cmp_is_bool, cmp_eq_bool, cmp_ne_bool,
    blt_len_list, blt_len_tuple, blt_len_str, items_list, items_tuple, items_str, seqItems_list, seqItems_tuple, seqItems_str, asInt_int, bindT_1, bindT_2, bindT_3, sub_tuple_0, sub_tuple_1, sub_list_0, bin_add_int, bin_sub_int, slice_list, slice_tuple, slice_str, unpack_1, unpack_2, unpack_3, thaw_no, X.has, hass, hasO, It.has, thawM_own, Nat.reduceBEq, Nat.reduceAdd, Bool.or_false, Bool.false_or, Bool.or_true, Bool.true_or, Bool.or_self, d16, sx]
theorem badBoxes_no : ∀ x ∈ badBoxes, ∀ k, (fx prog (k + 3)).call f_is_box [x] = .ok (.bool false) := by
  intro x hx k
  simp only [badBoxes, List.mem_cons, List.not_mem_nil, or_false] at hx
  rcases hx with e | e | e | e | e | e | e | e | e | e | e | e | e | e | e | e <;> (subst e; rfl)
def badWords : List D := [.none, .str [], .str [65], .str [97, 98, 99, 100, 101, 102, 103], .int 7, .tuple [.str [97]], .str [97, 32, 98]]
theorem law_badword_ev {kk : Nat} {ns : List Int} {a : Nat} (hl : ns.length ≤ 1000) : ∃ x ∈ badWords, (fx prog (kk + 2)).call f__law_badword [.list (ns.map D.int), .int (a : Nat)] = .ok x := by
  obtain ⟨x, hx, e⟩ := mem_at (l := badWords) (d := drawn ns a 7) (drawn_lt (by decide))
  refine ⟨x, hx, ?_⟩
  rw [call_at (df := d__law_badword) rfl, runDf_eq rfl]
  have d16 : (fx prog (kk + 1)).call f__law_drawn [.list (ns.map D.int), .int (a : Nat), .int 7] = .ok (.int (drawn ns a 7 : Nat)) := drawn_ev (many := 7) (by decide) hl
  have sx : subD (.list [.none, .str [], .str [65], .str [97, 98, 99, 100, 101, 102, 103], .int 7, .tuple [.str [97]], .str [97, 32, 98]]) (.int (drawn ns a 7 : Nat)) = .ok x := by rw [sub_list_n]; exact congrArg ofO e
  simp -dsimp only [execs, exec, ev, evs, evO, evIf, evIt, List.map_cons, List.map_nil, thawM_dat, thaw_un, thaw_nil, thaw_sl, rep_0, rep_1, rep_2, rep_3, rep_4, rep_5, rep_6, rep_7, rep_8, rep_9, rep_10, rep_11, rep_12, rep_13, rep_14,
    List.append_nil, List.cons_append, List.nil_append, List.getElem?_cons_zero, List.getElem?_cons_succ, List.set_cons_zero, List.set_cons_succ, slotD, R.bnd_ok, R.bind_err, truth_bool, R.to_ok, R.to_err, then_next, then_ret, then_err, then_brk, res_ret, res_next, res_err, R.guard_true, R.clm_ok, fresh,
    isi_int_int, isi_int_bool, isi_int_str, isi_int_tuple, isi_int_list, isi_str_int, isi_str_bool, isi_str_str, isi_str_tuple, isi_str_list, isi_tuple_tuple, isi_tuple_str, isi_tuple_list, isi_list_list, isi_list_tuple, Bool.not_true, Bool.not_false,
    cmp_lt_int, cmp_gt_int, cmp_le_int, cmp_ge_int, cmp_eq_int, cmp_ne_int, cmp_lt_str, cmp_gt_str, cmp_eq_str, cmp_ne_str, cmp_in_sign, cmp_notin_sign, cmp_isnot_bool, cmp_is_bool, cmp_eq_bool, cmp_ne_bool,
    blt_len_list, blt_len_tuple, blt_len_str, items_list, items_tuple, items_str, seqItems_list, seqItems_tuple, seqItems_str, asInt_int, bindT_1, bindT_2, bindT_3, sub_tuple_0, sub_tuple_1, sub_list_0, bin_add_int, bin_sub_int, slice_list, slice_tuple, slice_str, unpack_1, unpack_2, unpack_3, thaw_no, X.has, hass, hasO, It.has, thawM_own, Nat.reduceBEq, Nat.reduceAdd, Bool.or_false, Bool.false_or, Bool.or_true, Bool.true_or, Bool.or_self, d__law_badword, d16, sx]
theorem badWords_no : ∀ x ∈ badWords, ∀ k, (fx prog (k + 2)).call f_is_word [x] = .ok (.bool false) := by
  intro x hx k
  simp only [badWords, List.mem_cons, List.not_mem_nil, or_false] at hx
  rcases hx with e | e | e | e | e | e | e <;> (subst e; rfl)

theorem law_error_0 {k : Nat} {a b : D} {c : Nat} (h : (fx prog k).call f_signs_of [a, b] = .err c) (hc : 1 ≤ c ∧ c ≤ 3) : (fx prog (k + 1)).call f__law_error [.int 0, a, b] = .ok (.int ((c - 1 : Nat) : Int)) := by
  rw [call_at (df := d__law_error) rfl, runDf_eq rfl]
  have hcc : c = 1 ∨ c = 2 ∨ c = 3 := by omega
  have e0 : decide ((0 : Int) < 2) = true := rfl
  have es : subD (.list [.fn 11, .fn 13]) (.int 0) = .ok (.fn 11) := rfl
  simp -dsimp only [execs, exec, ev, evs, evO, evIf, evIt, List.map_cons, List.map_nil, thawM_dat, thaw_un, thaw_nil, thaw_sl, rep_0, rep_1, rep_2, rep_3, rep_4, rep_5, rep_6, rep_7, rep_8, rep_9, rep_10, rep_11, rep_12, rep_13, rep_14,
    List.append_nil, List.cons_append, List.nil_append, List.getElem?_cons_zero, List.getElem?_cons_succ, List.set_cons_zero, List.set_cons_succ, slotD, R.bnd_ok, R.bind_err, truth_bool, R.to_ok, R.to_err, then_next, then_ret, then_err, then_brk, res_ret, res_next, res_err, R.guard_true, R.clm_ok, fresh,
    isi_int_int, isi_int_bool, isi_int_str, isi_int_tuple, isi_int_list, isi_str_int, isi_str_bool, isi_str_str, isi_str_tuple, isi_str_list, isi_tuple_tuple, isi_tuple_str, isi_tuple_list, isi_list_list, isi_list_tuple, Bool.not_true, Bool.not_false,
    cmp_lt_int, cmp_gt_int, cmp_le_int, cmp_ge_int, cmp_eq_int, cmp_ne_int, cmp_lt_str, cmp_gt_str, cmp_eq_str, cmp_ne_str, cmp_in_sign, cmp_notin_sign, cmp_isnot_bool, cmp_is_bool, cmp_eq_bool, cmp_ne_bool,
    blt_len_list, blt_len_tuple, blt_len_str, items_list, items_tuple, items_str, seqItems_list, seqItems_tuple, seqItems_str, asInt_int, bindT_1, bindT_2, bindT_3, sub_tuple_0, sub_tuple_1, sub_list_0, bin_add_int, bin_sub_int, slice_list, slice_tuple, slice_str, unpack_1, unpack_2, unpack_3, thaw_no, X.has, hass, hasO, It.has, thawM_own, Nat.reduceBEq, Nat.reduceAdd, Bool.or_false, Bool.false_or, Bool.or_true, Bool.true_or, Bool.or_self, d__law_error, e0, es, h]
  rcases hcc with rfl | rfl | rfl <;> (cases k <;> rfl)
theorem law_error_1 {k : Nat} {a b : D} {c : Nat} (h : (fx prog k).call f_cubes_with [a, b] = .err c) (hc : 1 ≤ c ∧ c ≤ 3) : (fx prog (k + 1)).call f__law_error [.int 1, a, b] = .ok (.int ((c - 1 : Nat) : Int)) := by
  rw [call_at (df := d__law_error) rfl, runDf_eq rfl]
  have hcc : c = 1 ∨ c = 2 ∨ c = 3 := by omega
  have e0 : decide ((1 : Int) < 2) = true := rfl
  have es : subD (.list [.fn 11, .fn 13]) (.int 1) = .ok (.fn 13) := rfl
  simp -dsimp only [execs, exec, ev, evs, evO, evIf, evIt, List.map_cons, List.map_nil, thawM_dat, thaw_un, thaw_nil, thaw_sl, rep_0, rep_1, rep_2, rep_3, rep_4, rep_5, rep_6, rep_7, rep_8, rep_9, rep_10, rep_11, rep_12, rep_13, rep_14,
    List.append_nil, List.cons_append, List.nil_append, List.getElem?_cons_zero, List.getElem?_cons_succ, List.set_cons_zero, List.set_cons_succ, slotD, R.bnd_ok, R.bind_err, truth_bool, R.to_ok, R.to_err, then_next, then_ret, then_err, then_brk, res_ret, res_next, res_err, R.guard_true, R.clm_ok, fresh,
    isi_int_int, isi_int_bool, isi_int_str, isi_int_tuple, isi_int_list, isi_str_int, isi_str_bool, isi_str_str, isi_str_tuple, isi_str_list, isi_tuple_tuple, isi_tuple_str, isi_tuple_list, isi_list_list, isi_list_tuple, Bool.not_true, Bool.not_false,
    cmp_lt_int, cmp_gt_int, cmp_le_int, cmp_ge_int, cmp_eq_int, cmp_ne_int, cmp_lt_str, cmp_gt_str, cmp_eq_str, cmp_ne_str, cmp_in_sign, cmp_notin_sign, cmp_isnot_bool, cmp_is_bool, cmp_eq_bool, cmp_ne_bool,
    blt_len_list, blt_len_tuple, blt_len_str, items_list, items_tuple, items_str, seqItems_list, seqItems_tuple, seqItems_str, asInt_int, bindT_1, bindT_2, bindT_3, sub_tuple_0, sub_tuple_1, sub_list_0, bin_add_int, bin_sub_int, slice_list, slice_tuple, slice_str, unpack_1, unpack_2, unpack_3, thaw_no, X.has, hass, hasO, It.has, thawM_own, Nat.reduceBEq, Nat.reduceAdd, Bool.or_false, Bool.false_or, Bool.or_true, Bool.true_or, Bool.or_self, d__law_error, e0, es, h]
  rcases hcc with rfl | rfl | rfl <;> (cases k <;> rfl)
theorem law_error_2 {k : Nat} {a b : D} {c : Nat} (h : (fx prog k).call f_all_signs [a] = .err c) (hc : 1 ≤ c ∧ c ≤ 3) : (fx prog (k + 1)).call f__law_error [.int 2, a, b] = .ok (.int ((c - 1 : Nat) : Int)) := by
  rw [call_at (df := d__law_error) rfl, runDf_eq rfl]
  have hcc : c = 1 ∨ c = 2 ∨ c = 3 := by omega
  have e0 : decide ((2 : Int) < 2) = false := rfl
  simp -dsimp only [execs, exec, ev, evs, evO, evIf, evIt, List.map_cons, List.map_nil, thawM_dat, thaw_un, thaw_nil, thaw_sl, rep_0, rep_1, rep_2, rep_3, rep_4, rep_5, rep_6, rep_7, rep_8, rep_9, rep_10, rep_11, rep_12, rep_13, rep_14,
    List.append_nil, List.cons_append, List.nil_append, List.getElem?_cons_zero, List.getElem?_cons_succ, List.set_cons_zero, List.set_cons_succ, slotD, R.bnd_ok, R.bind_err, truth_bool, R.to_ok, R.to_err, then_next, then_ret, then_err, then_brk, res_ret, res_next, res_err, R.guard_true, R.clm_ok, fresh,
    isi_int_int, isi_int_bool, isi_int_str, isi_int_tuple, isi_int_list, isi_str_int, isi_str_bool, isi_str_str, isi_str_tuple, isi_str_list, isi_tuple_tuple, isi_tuple_str, isi_tuple_list, isi_list_list, isi_list_tuple, Bool.not_true, Bool.not_false,
    cmp_lt_int, cmp_gt_int, cmp_le_int, cmp_ge_int, cmp_eq_int, cmp_ne_int, cmp_lt_str, cmp_gt_str, cmp_eq_str, cmp_ne_str, cmp_in_sign, cmp_notin_sign, cmp_isnot_bool, cmp_is_bool, cmp_eq_bool, cmp_ne_bool,
    blt_len_list, blt_len_tuple, blt_len_str, items_list, items_tuple, items_str, seqItems_list, seqItems_tuple, seqItems_str, asInt_int, bindT_1, bindT_2, bindT_3, sub_tuple_0, sub_tuple_1, sub_list_0, bin_add_int, bin_sub_int, slice_list, slice_tuple, slice_str, unpack_1, unpack_2, unpack_3, thaw_no, X.has, hass, hasO, It.has, thawM_own, Nat.reduceBEq, Nat.reduceAdd, Bool.or_false, Bool.false_or, Bool.or_true, Bool.true_or, Bool.or_self, d__law_error, e0, h]
  rcases hcc with rfl | rfl | rfl <;> (cases k <;> rfl)
/-- what is held: the signs of all cubes, once, ascending -/
theorem held_ok {cs : List W} {t : Tw} : sortS (once ((cs.flatMap fun c => signsOf c t).map fun s => [s])) = (shownSigns cs t).map fun s => [s] := by
  refine up_ext (sortS_up nodup_once) ?_ fun x => ?_
  · rw [List.pairwise_map]
    refine List.Pairwise.imp (fun h => sg_lt.mpr h) ?_
    exact List.Pairwise.filter _ (by decide : SIGNS.Pairwise (· < ·))
  · rw [mem_sortS, mem_once, List.mem_map, List.mem_map]
    have e : ∀ s, s ∈ cs.flatMap (fun c => signsOf c t) ↔ s ∈ shownSigns cs t := fun s => by
      unfold signsOf shownSigns findCubes
      rw [List.mem_flatMap, List.mem_filter]
      constructor
      · rintro ⟨c, hc, hs⟩
        rw [List.mem_filter] at hs
        refine ⟨hs.1, ?_⟩
        obtain ⟨n, hn⟩ := List.getElem?_of_mem hc
        have : (c, n) ∈ cs.zipIdx := List.mem_zipIdx_iff_getElem?.mpr hn
        have m : n ∈ ((cs.zipIdx).filter fun p => shows p.1 t s).map (·.2) := List.mem_map.mpr ⟨(c, n), List.mem_filter.mpr ⟨this, hs.2⟩, rfl⟩
        cases e : ((cs.zipIdx).filter fun p => shows p.1 t s).map (·.2) with
        | nil => rw [e] at m; cases m
        | cons _ _ => rfl
      · rintro ⟨h1, h2⟩
        cases e : (cs.zipIdx).filter fun p => shows p.1 t s with
        | nil => rw [e] at h2; cases h2
        | cons p r =>
          have hp : p ∈ (cs.zipIdx).filter fun p => shows p.1 t s := by rw [e]; exact List.mem_cons_self
          rw [List.mem_filter] at hp
          obtain ⟨c, n⟩ := p
          exact ⟨c, List.mem_of_getElem? (List.mem_zipIdx_iff_getElem?.mp hp.1), List.mem_filter.mpr ⟨h1, hp.2⟩⟩
    exact ⟨fun ⟨s, hs, hx⟩ => ⟨s, (e s).mp hs, hx⟩, fun ⟨s, hs, hx⟩ => ⟨s, (e s).mpr hs, hx⟩⟩
theorem zip_flat {α : Type} (f : W → List α) : ∀ (cs : List W) (n : Nat), ((cs.zipIdx n).flatMap fun p => f p.1) = cs.flatMap f
  | [], _ => rfl
  | c :: cs, n => by rw [List.zipIdx_cons, List.flatMap_cons, List.flatMap_cons, zip_flat f cs (n + 1)]
theorem signsOf_len {c : W} {t : Tw} : (signsOf c t).length ≤ 36 := List.length_filter_le _ _
theorem flat_le {cs : List W} {t : Tw} : (cs.flatMap fun c => signsOf c t).length ≤ 36 * cs.length := by
  induction cs with
  | nil => exact Nat.le_refl _
  | cons c cs ih =>
    rw [List.flatMap_cons, List.length_append, List.length_cons]
    have := signsOf_len (c := c) (t := t)
    omega
theorem main : ∀ ns : List Int, ns.length ≤ 63 → runDf (fx prog 15) d_law [.list (ns.map D.int)] = .ok (.bool true) := by
  intro ns hlen
  have hl : ns.length ≤ 1000 := by omega
  rw [runDf_eq rfl]
  have B := lawBox_ok (ns := ns) (a := 10) (most := 6) (by decide) (by decide)
  have hb : (fx prog 15).call f__law_box [.list (ns.map D.int), .int 10, .int 6] = .ok (dBox (lawCubes ns 10 6) (lawTwins ns 10)) := law_box_ev (kk := 13) (a := 10) (most := 6) (by decide) (by decide) hl
  have hw : (fx prog 15).call f__law_word [.list (ns.map D.int), .int 50, .int 6] = .ok (.str (lawWord ns 50 6)) := law_word_ev (kk := 13) (a := 50) (most := 6) (by decide) (by decide) hl
  have hwo : okStr (lawWord ns 50 6) 1 6 = true := by
    have h1 := lawWord_len (ns := ns) (a := 50) (most := 6) (by decide)
    unfold okStr
    have h2 : (lawWord ns 50 6).all okSign = true := List.all_eq_true.mpr fun c hc => List.contains_iff_mem.mpr (lawSet_sign (lawWord_in c hc))
    rw [decide_eq_true (show (1 : Int) ≤ _ by omega), decide_eq_true (show (_ : Int) ≤ 6 by omega), h2]
    rfl
  generalize lawCubes ns 10 6 = cs at *
  generalize lawTwins ns 10 = t at *
  generalize lawWord ns 50 6 = w at *
  obtain ⟨odd, hodd, eodd⟩ := law_badbox_ev (kk := 13) (ns := ns) (a := 1) hl
  obtain ⟨bad, hbad, ebad⟩ := law_badword_ev (kk := 13) (ns := ns) (a := 2) hl
  have d3 : (fx prog 15).call f__law_drawn [.list (ns.map D.int), .int 3, .int 5] = .ok (.int (drawn ns 3 5 : Nat)) := drawn_ev (kk := 14) (k := 3) (many := 5) (by decide) hl
  have d4 : (fx prog 15).call f__law_drawn [.list (ns.map D.int), .int 4, .int 6] = .ok (.int (drawn ns 4 6 : Nat)) := drawn_ev (kk := 14) (k := 4) (many := 6) (by decide) hl
  obtain ⟨num, hnum, enum⟩ := mem_at (l := [D.none, .int (-1), .int (cs.length : Nat), .bool true, .str [48]]) (d := drawn ns 3 5) (drawn_lt (by decide))
  obtain ⟨sig, hsig, esig⟩ := mem_at (l := [D.none, .str [], .str [97, 98], .str [65], .int 7, .str [46]]) (d := drawn ns 4 6) (drawn_lt (by decide))
  have enum' : subD (.list [D.none, .int (-1), .int (cs.length : Nat), .bool true, .str [48]]) (.int (drawn ns 3 5 : Nat)) = .ok num := by rw [sub_list_n]; exact congrArg ofO enum
  have esig' : subD (.list [D.none, .str [], .str [97, 98], .str [65], .int 7, .str [46]]) (.int (drawn ns 4 6 : Nat)) = .ok sig := by rw [sub_list_n]; exact congrArg ofO esig
  have hn0 : ∀ k, (fx prog (k + 1)).call f_is_int [num, .int 0, .int ((cs.length : Int) - 1)] = .ok (.bool false) := fun k => by
    simp only [List.mem_cons, List.not_mem_nil, or_false] at hnum
    rcases hnum with e | e | e | e | e <;> subst e
    · rfl
    · rw [is_int_i, decide_eq_false (show ¬ (0 : Int) ≤ -1 by decide)]; rfl
    · rw [is_int_i, decide_eq_false (show ¬ (cs.length : Int) ≤ (cs.length : Int) - 1 by omega), Bool.and_false]
    · rfl
    · rfl
  have hs0 : ∀ k, (fx prog (k + 1)).call f_is_sign [sig] = .ok (.bool false) := fun k => by
    simp only [List.mem_cons, List.not_mem_nil, or_false] at hsig
    rcases hsig with e | e | e | e | e | e <;> (subst e; rfl)
  have hbx : (fx prog 15).call f_is_box [dBox cs t] = .ok (.bool true) := is_box_b (k := 12) B
  have hwd : (fx prog 15).call f_is_word [.str w] = _ := is_word_s (k := 13) (l := w)
  have hne := okT_ne B.tw
  have hob := badBoxes_no odd hodd
  have hob15 : (fx prog 15).call f_is_box [odd] = .ok (.bool false) := hob 12
  have hbw : (fx prog 15).call f_is_word [bad] = .ok (.bool false) := badWords_no bad hbad 13
  have eodd : (fx prog 15).call f__law_badbox [.list (ns.map D.int), .int 1] = .ok odd := eodd
  have ebad : (fx prog 15).call f__law_badword [.list (ns.map D.int), .int 2] = .ok bad := ebad
  have hrest : ∀ (x : D) (k : Nat), (fx prog (k + 3)).call f_is_box [.tuple [dTs cs, dTw t, x]] = .ok (.bool false) := fun _ _ => rfl
  have hconst : (fx prog 15).call 6 [.tuple [.tuple [.str [48, 49, 50, 51, 52, 53], .str [48, 49, 50, 51, 52, 53], .str [48, 49, 50, 51, 52, 53], .str [48, 49, 50, 51, 52, 53], .str [48, 49, 50, 51, 52, 53], .str [48, 49, 50, 51, 52, 53]], .tuple [.str [48, 49], .str [50, 51], .str [52, 53], .str [54, 55]]]] = .ok (.bool true) := isT_ok (by decide +kernel)
  generalize D.list (ns.map D.int) = S at *
  unfold d_law
  dsimp only
  rw [execs_next (ρ' := [.dat S, .dat (dBox cs t), .dat (.str w), .un, .un, .un, .un, .un, .un, .un, .un, .un, .un, .un]) (by simp -dsimp only [execs, exec, ev, evs, evO, evIf, evIt, List.map_cons, List.map_nil, thawM_dat, thaw_un, thaw_nil, thaw_sl, rep_0, rep_1, rep_2, rep_3, rep_4, rep_5, rep_6, rep_7, rep_8, rep_9, rep_10, rep_11, rep_12, rep_13, rep_14,
    List.append_nil, List.cons_append, List.nil_append, List.getElem?_cons_zero, List.getElem?_cons_succ, List.set_cons_zero, List.set_cons_succ, slotD, R.bnd_ok, R.bind_err, truth_bool, R.to_ok, R.to_err, then_next, then_ret, then_err, then_brk, res_ret, res_next, res_err, R.guard_true, R.clm_ok, fresh,
    isi_int_int, isi_int_bool, isi_int_str, isi_int_tuple, isi_int_list, isi_str_int, isi_str_bool, isi_str_str, isi_str_tuple, isi_str_list, isi_tuple_tuple, isi_tuple_str, isi_tuple_list, isi_list_list, isi_list_tuple, Bool.not_true, Bool.not_false,
    cmp_lt_int, cmp_gt_int, cmp_le_int, cmp_ge_int, cmp_eq_int, cmp_ne_int, cmp_lt_str, cmp_gt_str, cmp_eq_str, cmp_ne_str, cmp_in_sign, cmp_notin_sign, cmp_isnot_bool, cmp_is_bool, cmp_eq_bool, cmp_ne_bool,
    blt_len_list, blt_len_tuple, blt_len_str, items_list, items_tuple, items_str, seqItems_list, seqItems_tuple, seqItems_str, asInt_int, bindT_1, bindT_2, bindT_3, sub_tuple_0, sub_tuple_1, sub_list_0, bin_add_int, bin_sub_int, slice_list, slice_tuple, slice_str, unpack_1, unpack_2, unpack_3, thaw_no, X.has, hass, hasO, It.has, thawM_own, Nat.reduceBEq, Nat.reduceAdd, Bool.or_false, Bool.false_or, Bool.or_true, Bool.true_or, Bool.or_self, hb, hw, after, scalar])]
  rw [execs_next (ρ' := [.dat S, .dat (dBox cs t), .dat (.str w), .dat (dTs cs), .dat (dTw t), .un, .un, .un, .un, .un, .un, .un, .un, .un]) (by simp -dsimp only [execs, exec, ev, evs, evO, evIf, evIt, List.map_cons, List.map_nil, thawM_dat, thaw_un, thaw_nil, thaw_sl, rep_0, rep_1, rep_2, rep_3, rep_4, rep_5, rep_6, rep_7, rep_8, rep_9, rep_10, rep_11, rep_12, rep_13, rep_14,
    List.append_nil, List.cons_append, List.nil_append, List.getElem?_cons_zero, List.getElem?_cons_succ, List.set_cons_zero, List.set_cons_succ, slotD, R.bnd_ok, R.bind_err, truth_bool, R.to_ok, R.to_err, then_next, then_ret, then_err, then_brk, res_ret, res_next, res_err, R.guard_true, R.clm_ok, fresh,
    isi_int_int, isi_int_bool, isi_int_str, isi_int_tuple, isi_int_list, isi_str_int, isi_str_bool, isi_str_str, isi_str_tuple, isi_str_list, isi_tuple_tuple, isi_tuple_str, isi_tuple_list, isi_list_list, isi_list_tuple, Bool.not_true, Bool.not_false,
    cmp_lt_int, cmp_gt_int, cmp_le_int, cmp_ge_int, cmp_eq_int, cmp_ne_int, cmp_lt_str, cmp_gt_str, cmp_eq_str, cmp_ne_str, cmp_in_sign, cmp_notin_sign, cmp_isnot_bool, cmp_is_bool, cmp_eq_bool, cmp_ne_bool,
    blt_len_list, blt_len_tuple, blt_len_str, items_list, items_tuple, items_str, seqItems_list, seqItems_tuple, seqItems_str, asInt_int, bindT_1, bindT_2, bindT_3, sub_tuple_0, sub_tuple_1, sub_list_0, bin_add_int, bin_sub_int, slice_list, slice_tuple, slice_str, unpack_1, unpack_2, unpack_3, thaw_no, X.has, hass, hasO, It.has, thawM_own, Nat.reduceBEq, Nat.reduceAdd, Bool.or_false, Bool.false_or, Bool.or_true, Bool.true_or, Bool.or_self, after, scalar, dBox])]
  rw [execs_next ((exec_if_false (by simp -dsimp only [execs, exec, ev, evs, evO, evIf, evIt, List.map_cons, List.map_nil, thawM_dat, thaw_un, thaw_nil, thaw_sl, rep_0, rep_1, rep_2, rep_3, rep_4, rep_5, rep_6, rep_7, rep_8, rep_9, rep_10, rep_11, rep_12, rep_13, rep_14,
    List.append_nil, List.cons_append, List.nil_append, List.getElem?_cons_zero, List.getElem?_cons_succ, List.set_cons_zero, List.set_cons_succ, slotD, R.bnd_ok, R.bind_err, truth_bool, R.to_ok, R.to_err, then_next, then_ret, then_err, then_brk, res_ret, res_next, res_err, R.guard_true, R.clm_ok, fresh,
    isi_int_int, isi_int_bool, isi_int_str, isi_int_tuple, isi_int_list, isi_str_int, isi_str_bool, isi_str_str, isi_str_tuple, isi_str_list, isi_tuple_tuple, isi_tuple_str, isi_tuple_list, isi_list_list, isi_list_tuple, Bool.not_true, Bool.not_false,
    cmp_lt_int, cmp_gt_int, cmp_le_int, cmp_ge_int, cmp_eq_int, cmp_ne_int, cmp_lt_str, cmp_gt_str, cmp_eq_str, cmp_ne_str, cmp_in_sign, cmp_notin_sign, cmp_isnot_bool, cmp_is_bool, cmp_eq_bool, cmp_ne_bool,
    blt_len_list, blt_len_tuple, blt_len_str, items_list, items_tuple, items_str, seqItems_list, seqItems_tuple, seqItems_str, asInt_int, bindT_1, bindT_2, bindT_3, sub_tuple_0, sub_tuple_1, sub_list_0, bin_add_int, bin_sub_int, slice_list, slice_tuple, slice_str, unpack_1, unpack_2, unpack_3, thaw_no, X.has, hass, hasO, It.has, thawM_own, Nat.reduceBEq, Nat.reduceAdd, Bool.or_false, Bool.false_or, Bool.or_true, Bool.true_or, Bool.or_self, hbx, hwd, hwo]; rfl)).trans rfl)]
  have hm : binD .mul (.tuple [.str [48, 49, 50, 51, 52, 53]]) (.int 6) = .ok (.tuple [.str [48, 49, 50, 51, 52, 53], .str [48, 49, 50, 51, 52, 53], .str [48, 49, 50, 51, 52, 53], .str [48, 49, 50, 51, 52, 53], .str [48, 49, 50, 51, 52, 53], .str [48, 49, 50, 51, 52, 53]]) := rfl
  rw [execs_next ((exec_if_false (by simp -dsimp only [execs, exec, ev, evs, evO, evIf, evIt, List.map_cons, List.map_nil, thawM_dat, thaw_un, thaw_nil, thaw_sl, rep_0, rep_1, rep_2, rep_3, rep_4, rep_5, rep_6, rep_7, rep_8, rep_9, rep_10, rep_11, rep_12, rep_13, rep_14,
    List.append_nil, List.cons_append, List.nil_append, List.getElem?_cons_zero, List.getElem?_cons_succ, List.set_cons_zero, List.set_cons_succ, slotD, R.bnd_ok, R.bind_err, truth_bool, R.to_ok, R.to_err, then_next, then_ret, then_err, then_brk, res_ret, res_next, res_err, R.guard_true, R.clm_ok, fresh,
    isi_int_int, isi_int_bool, isi_int_str, isi_int_tuple, isi_int_list, isi_str_int, isi_str_bool, isi_str_str, isi_str_tuple, isi_str_list, isi_tuple_tuple, isi_tuple_str, isi_tuple_list, isi_list_list, isi_list_tuple, Bool.not_true, Bool.not_false,
    cmp_lt_int, cmp_gt_int, cmp_le_int, cmp_ge_int, cmp_eq_int, cmp_ne_int, cmp_lt_str, cmp_gt_str, cmp_eq_str, cmp_ne_str, cmp_in_sign, cmp_notin_sign, cmp_isnot_bool, cmp_is_bool, cmp_eq_bool, cmp_ne_bool,
    blt_len_list, blt_len_tuple, blt_len_str, items_list, items_tuple, items_str, seqItems_list, seqItems_tuple, seqItems_str, asInt_int, bindT_1, bindT_2, bindT_3, sub_tuple_0, sub_tuple_1, sub_list_0, bin_add_int, bin_sub_int, slice_list, slice_tuple, slice_str, unpack_1, unpack_2, unpack_3, thaw_no, X.has, hass, hasO, It.has, thawM_own, Nat.reduceBEq, Nat.reduceAdd, Bool.or_false, Bool.false_or, Bool.or_true, Bool.true_or, Bool.or_self, hm, hconst]; rfl)).trans rfl)]
  rw [execs_next (ρ' := [.dat S, .dat (dBox cs t), .dat (.str w), .dat (dTs cs), .dat (dTw t), .dat (.str SIGNS), .dat (.list []), .un, .un, .un, .un, .un, .un, .un]) (by simp -dsimp only [execs, exec, ev, evs, evO, evIf, evIt, List.map_cons, List.map_nil, thawM_dat, thaw_un, thaw_nil, thaw_sl, rep_0, rep_1, rep_2, rep_3, rep_4, rep_5, rep_6, rep_7, rep_8, rep_9, rep_10, rep_11, rep_12, rep_13, rep_14,
    List.append_nil, List.cons_append, List.nil_append, List.getElem?_cons_zero, List.getElem?_cons_succ, List.set_cons_zero, List.set_cons_succ, slotD, R.bnd_ok, R.bind_err, truth_bool, R.to_ok, R.to_err, then_next, then_ret, then_err, then_brk, res_ret, res_next, res_err, R.guard_true, R.clm_ok, fresh,
    isi_int_int, isi_int_bool, isi_int_str, isi_int_tuple, isi_int_list, isi_str_int, isi_str_bool, isi_str_str, isi_str_tuple, isi_str_list, isi_tuple_tuple, isi_tuple_str, isi_tuple_list, isi_list_list, isi_list_tuple, Bool.not_true, Bool.not_false,
    cmp_lt_int, cmp_gt_int, cmp_le_int, cmp_ge_int, cmp_eq_int, cmp_ne_int, cmp_lt_str, cmp_gt_str, cmp_eq_str, cmp_ne_str, cmp_in_sign, cmp_notin_sign, cmp_isnot_bool, cmp_is_bool, cmp_eq_bool, cmp_ne_bool,
    blt_len_list, blt_len_tuple, blt_len_str, items_list, items_tuple, items_str, seqItems_list, seqItems_tuple, seqItems_str, asInt_int, bindT_1, bindT_2, bindT_3, sub_tuple_0, sub_tuple_1, sub_list_0, bin_add_int, bin_sub_int, slice_list, slice_tuple, slice_str, unpack_1, unpack_2, unpack_3, thaw_no, X.has, hass, hasO, It.has, thawM_own, Nat.reduceBEq, Nat.reduceAdd, Bool.or_false, Bool.false_or, Bool.or_true, Bool.true_or, Bool.or_self, after, scalar]; rfl)]
  refine for_res (fun (pre : List (W × Nat)) ρ => ∃ x7 x8 x9, ρ = [.dat S, .dat (dBox cs t), .dat (.str w), .dat (dTs cs), .dat (dTw t), .dat (.str SIGNS), .dat (.list ((pre.flatMap fun p => signsOf p.1 t).map fun s => D.str [s])), sl x7, sl x8, sl x9, .un, .un, .un, .un]) (evIt_enum (l := cs) (e := D.str) (d := dTs cs) (by simp -dsimp only [execs, exec, ev, evs, evO, evIf, evIt, List.map_cons, List.map_nil, thawM_dat, thaw_un, thaw_nil, thaw_sl, rep_0, rep_1, rep_2, rep_3, rep_4, rep_5, rep_6, rep_7, rep_8, rep_9, rep_10, rep_11, rep_12, rep_13, rep_14,
    List.append_nil, List.cons_append, List.nil_append, List.getElem?_cons_zero, List.getElem?_cons_succ, List.set_cons_zero, List.set_cons_succ, slotD, R.bnd_ok, R.bind_err, truth_bool, R.to_ok, R.to_err, then_next, then_ret, then_err, then_brk, res_ret, res_next, res_err, R.guard_true, R.clm_ok, fresh,
    isi_int_int, isi_int_bool, isi_int_str, isi_int_tuple, isi_int_list, isi_str_int, isi_str_bool, isi_str_str, isi_str_tuple, isi_str_list, isi_tuple_tuple, isi_tuple_str, isi_tuple_list, isi_list_list, isi_list_tuple, Bool.not_true, Bool.not_false,
    cmp_lt_int, cmp_gt_int, cmp_le_int, cmp_ge_int, cmp_eq_int, cmp_ne_int, cmp_lt_str, cmp_gt_str, cmp_eq_str, cmp_ne_str, cmp_in_sign, cmp_notin_sign, cmp_isnot_bool, cmp_is_bool, cmp_eq_bool, cmp_ne_bool,
    blt_len_list, blt_len_tuple, blt_len_str, items_list, items_tuple, items_str, seqItems_list, seqItems_tuple, seqItems_str, asInt_int, bindT_1, bindT_2, bindT_3, sub_tuple_0, sub_tuple_1, sub_list_0, bin_add_int, bin_sub_int, slice_list, slice_tuple, slice_str, unpack_1, unpack_2, unpack_3, thaw_no, X.has, hass, hasO, It.has, thawM_own, Nat.reduceBEq, Nat.reduceAdd, Bool.or_false, Bool.false_or, Bool.or_true, Bool.true_or, Bool.or_self]) rfl) ?_ (fun pre post p ρ hp ⟨x7, x8, x9, hρ⟩ => ?_) (fun ρ' ⟨x7, x8, x9, hρ⟩ => ?_)
  · exact ⟨none, none, none, by simp -dsimp only [execs, exec, ev, evs, evO, evIf, evIt, List.map_cons, List.map_nil, thawM_dat, thaw_un, thaw_nil, thaw_sl, rep_0, rep_1, rep_2, rep_3, rep_4, rep_5, rep_6, rep_7, rep_8, rep_9, rep_10, rep_11, rep_12, rep_13, rep_14,
    List.append_nil, List.cons_append, List.nil_append, List.getElem?_cons_zero, List.getElem?_cons_succ, List.set_cons_zero, List.set_cons_succ, slotD, R.bnd_ok, R.bind_err, truth_bool, R.to_ok, R.to_err, then_next, then_ret, then_err, then_brk, res_ret, res_next, res_err, R.guard_true, R.clm_ok, fresh,
    isi_int_int, isi_int_bool, isi_int_str, isi_int_tuple, isi_int_list, isi_str_int, isi_str_bool, isi_str_str, isi_str_tuple, isi_str_list, isi_tuple_tuple, isi_tuple_str, isi_tuple_list, isi_list_list, isi_list_tuple, Bool.not_true, Bool.not_false,
    cmp_lt_int, cmp_gt_int, cmp_le_int, cmp_ge_int, cmp_eq_int, cmp_ne_int, cmp_lt_str, cmp_gt_str, cmp_eq_str, cmp_ne_str, cmp_in_sign, cmp_notin_sign, cmp_isnot_bool, cmp_is_bool, cmp_eq_bool, cmp_ne_bool,
    blt_len_list, blt_len_tuple, blt_len_str, items_list, items_tuple, items_str, seqItems_list, seqItems_tuple, seqItems_str, asInt_int, bindT_1, bindT_2, bindT_3, sub_tuple_0, sub_tuple_1, sub_list_0, bin_add_int, bin_sub_int, slice_list, slice_tuple, slice_str, unpack_1, unpack_2, unpack_3, thaw_no, X.has, hass, hasO, It.has, thawM_own, Nat.reduceBEq, Nat.reduceAdd, Bool.or_false, Bool.false_or, Bool.or_true, Bool.true_or, Bool.or_self]; rfl⟩
  · subst hρ
    obtain ⟨c, n⟩ := p
    have hmem : (c, n) ∈ cs.zipIdx := by rw [hp]; simp
    have hcn : cs[n]? = some c := List.mem_zipIdx_iff_getElem?.mp hmem
    have hsg := signs_of_t (k := 10) B hcn
    have hplen : pre.length ≤ 6 := by
      have := congrArg List.length hp
      rw [List.length_zipIdx, List.length_append, List.length_cons] at this
      have := B.few
      omega
    refine NextP.mk (ρ' := [.dat S, .dat (dBox cs t), .dat (.str w), .dat (dTs cs), .dat (dTw t), .dat (.str SIGNS), .dat (.list (((pre ++ [(c, n)]).flatMap fun p => signsOf p.1 t).map fun s => D.str [s])), .dat (.int (n : Nat)), .dat (.str c), .dat (.list ((signsOf c t).map fun s => D.str [s])), .un, .un, .un, .un]) ?_ ⟨some (.int (n : Nat)), some (.str c), some (.list ((signsOf c t).map fun s => D.str [s])), rfl⟩
    simp only [unpack_1, unpack_2, unpack_3, then_next, List.set_cons_zero, List.set_cons_succ]
    rw [execs_next (ρ' := [.dat S, .dat (dBox cs t), .dat (.str w), .dat (dTs cs), .dat (dTw t), .dat (.str SIGNS), .dat (.list ((pre.flatMap fun p => signsOf p.1 t).map fun s => D.str [s])), .dat (.int (n : Nat)), .dat (.str c), .dat (.list ((signsOf c t).map fun s => D.str [s])), .un, .un, .un, .un]) (by
      simp -dsimp only [execs, exec, ev, evs, evO, evIf, evIt, List.map_cons, List.map_nil, thawM_dat, thaw_un, thaw_nil, thaw_sl, rep_0, rep_1, rep_2, rep_3, rep_4, rep_5, rep_6, rep_7, rep_8, rep_9, rep_10, rep_11, rep_12, rep_13, rep_14,
    List.append_nil, List.cons_append, List.nil_append, List.getElem?_cons_zero, List.getElem?_cons_succ, List.set_cons_zero, List.set_cons_succ, slotD, R.bnd_ok, R.bind_err, truth_bool, R.to_ok, R.to_err, then_next, then_ret, then_err, then_brk, res_ret, res_next, res_err, R.guard_true, R.clm_ok, fresh,
    isi_int_int, isi_int_bool, isi_int_str, isi_int_tuple, isi_int_list, isi_str_int, isi_str_bool, isi_str_str, isi_str_tuple, isi_str_list, isi_tuple_tuple, isi_tuple_str, isi_tuple_list, isi_list_list, isi_list_tuple, Bool.not_true, Bool.not_false,
    cmp_lt_int, cmp_gt_int, cmp_le_int, cmp_ge_int, cmp_eq_int, cmp_ne_int, cmp_lt_str, cmp_gt_str, cmp_eq_str, cmp_ne_str, cmp_in_sign, cmp_notin_sign, cmp_isnot_bool, cmp_is_bool, cmp_eq_bool, cmp_ne_bool,
    blt_len_list, blt_len_tuple, blt_len_str, items_list, items_tuple, items_str, seqItems_list, seqItems_tuple, seqItems_str, asInt_int, bindT_1, bindT_2, bindT_3, sub_tuple_0, sub_tuple_1, sub_list_0, bin_add_int, bin_sub_int, slice_list, slice_tuple, slice_str, unpack_1, unpack_2, unpack_3, thaw_no, X.has, hass, hasO, It.has, thawM_own, Nat.reduceBEq, Nat.reduceAdd, Bool.or_false, Bool.false_or, Bool.or_true, Bool.true_or, Bool.or_self]
      rw [filtR_map (p := fun s : Nat => shows c t s) (g := fun c => D.str [c]) (fun s hs => by
        simp -dsimp only [execs, exec, ev, evs, evO, evIf, evIt, List.map_cons, List.map_nil, thawM_dat, thaw_un, thaw_nil, thaw_sl, rep_0, rep_1, rep_2, rep_3, rep_4, rep_5, rep_6, rep_7, rep_8, rep_9, rep_10, rep_11, rep_12, rep_13, rep_14,
    List.append_nil, List.cons_append, List.nil_append, List.getElem?_cons_zero, List.getElem?_cons_succ, List.set_cons_zero, List.set_cons_succ, slotD, R.bnd_ok, R.bind_err, truth_bool, R.to_ok, R.to_err, then_next, then_ret, then_err, then_brk, res_ret, res_next, res_err, R.guard_true, R.clm_ok, fresh,
    isi_int_int, isi_int_bool, isi_int_str, isi_int_tuple, isi_int_list, isi_str_int, isi_str_bool, isi_str_str, isi_str_tuple, isi_str_list, isi_tuple_tuple, isi_tuple_str, isi_tuple_list, isi_list_list, isi_list_tuple, Bool.not_true, Bool.not_false,
    cmp_lt_int, cmp_gt_int, cmp_le_int, cmp_ge_int, cmp_eq_int, cmp_ne_int, cmp_lt_str, cmp_gt_str, cmp_eq_str, cmp_ne_str, cmp_in_sign, cmp_notin_sign, cmp_isnot_bool, cmp_is_bool, cmp_eq_bool, cmp_ne_bool,
    blt_len_list, blt_len_tuple, blt_len_str, items_list, items_tuple, items_str, seqItems_list, seqItems_tuple, seqItems_str, asInt_int, bindT_1, bindT_2, bindT_3, sub_tuple_0, sub_tuple_1, sub_list_0, bin_add_int, bin_sub_int, slice_list, slice_tuple, slice_str, unpack_1, unpack_2, unpack_3, thaw_no, X.has, hass, hasO, It.has, thawM_own, Nat.reduceBEq, Nat.reduceAdd, Bool.or_false, Bool.false_or, Bool.or_true, Bool.true_or, Bool.or_self, law_does_ev (k := 14) B.tw (sign_ne hs)]
        cases shows c t s <;> rfl)]
      simp -dsimp only [execs, exec, ev, evs, evO, evIf, evIt, List.map_cons, List.map_nil, thawM_dat, thaw_un, thaw_nil, thaw_sl, rep_0, rep_1, rep_2, rep_3, rep_4, rep_5, rep_6, rep_7, rep_8, rep_9, rep_10, rep_11, rep_12, rep_13, rep_14,
    List.append_nil, List.cons_append, List.nil_append, List.getElem?_cons_zero, List.getElem?_cons_succ, List.set_cons_zero, List.set_cons_succ, slotD, R.bnd_ok, R.bind_err, truth_bool, R.to_ok, R.to_err, then_next, then_ret, then_err, then_brk, res_ret, res_next, res_err, R.guard_true, R.clm_ok, fresh,
    isi_int_int, isi_int_bool, isi_int_str, isi_int_tuple, isi_int_list, isi_str_int, isi_str_bool, isi_str_str, isi_str_tuple, isi_str_list, isi_tuple_tuple, isi_tuple_str, isi_tuple_list, isi_list_list, isi_list_tuple, Bool.not_true, Bool.not_false,
    cmp_lt_int, cmp_gt_int, cmp_le_int, cmp_ge_int, cmp_eq_int, cmp_ne_int, cmp_lt_str, cmp_gt_str, cmp_eq_str, cmp_ne_str, cmp_in_sign, cmp_notin_sign, cmp_isnot_bool, cmp_is_bool, cmp_eq_bool, cmp_ne_bool,
    blt_len_list, blt_len_tuple, blt_len_str, items_list, items_tuple, items_str, seqItems_list, seqItems_tuple, seqItems_str, asInt_int, bindT_1, bindT_2, bindT_3, sub_tuple_0, sub_tuple_1, sub_list_0, bin_add_int, bin_sub_int, slice_list, slice_tuple, slice_str, unpack_1, unpack_2, unpack_3, thaw_no, X.has, hass, hasO, It.has, thawM_own, Nat.reduceBEq, Nat.reduceAdd, Bool.or_false, Bool.false_or, Bool.or_true, Bool.true_or, Bool.or_self, after, scalar]
      rfl)]
    have ha : binD .add (.list ((pre.flatMap fun p => signsOf p.1 t).map fun s => D.str [s])) (.list ((signsOf c t).map fun s => D.str [s])) = .ok (.list (((pre ++ [(c, n)]).flatMap fun p => signsOf p.1 t).map fun s => D.str [s])) := by
      have h1 := signsOf_len (c := c) (t := t)
      have h2 := flat_le (cs := pre.map (·.1)) (t := t)
      rw [List.flatMap_map, List.length_map] at h2
      rw [bin_add_list (by rw [List.length_map, List.length_map]; omega), List.flatMap_append, List.map_append]
      simp
    rw [execs_next (ρ' := [.dat S, .dat (dBox cs t), .dat (.str w), .dat (dTs cs), .dat (dTw t), .dat (.str SIGNS), .dat (.list (((pre ++ [(c, n)]).flatMap fun p => signsOf p.1 t).map fun s => D.str [s])), .dat (.int (n : Nat)), .dat (.str c), .dat (.list ((signsOf c t).map fun s => D.str [s])), .un, .un, .un, .un]) (by simp -dsimp only [execs, exec, ev, evs, evO, evIf, evIt, List.map_cons, List.map_nil, thawM_dat, thaw_un, thaw_nil, thaw_sl, rep_0, rep_1, rep_2, rep_3, rep_4, rep_5, rep_6, rep_7, rep_8, rep_9, rep_10, rep_11, rep_12, rep_13, rep_14,
    List.append_nil, List.cons_append, List.nil_append, List.getElem?_cons_zero, List.getElem?_cons_succ, List.set_cons_zero, List.set_cons_succ, slotD, R.bnd_ok, R.bind_err, truth_bool, R.to_ok, R.to_err, then_next, then_ret, then_err, then_brk, res_ret, res_next, res_err, R.guard_true, R.clm_ok, fresh,
    isi_int_int, isi_int_bool, isi_int_str, isi_int_tuple, isi_int_list, isi_str_int, isi_str_bool, isi_str_str, isi_str_tuple, isi_str_list, isi_tuple_tuple, isi_tuple_str, isi_tuple_list, isi_list_list, isi_list_tuple, Bool.not_true, Bool.not_false,
    cmp_lt_int, cmp_gt_int, cmp_le_int, cmp_ge_int, cmp_eq_int, cmp_ne_int, cmp_lt_str, cmp_gt_str, cmp_eq_str, cmp_ne_str, cmp_in_sign, cmp_notin_sign, cmp_isnot_bool, cmp_is_bool, cmp_eq_bool, cmp_ne_bool,
    blt_len_list, blt_len_tuple, blt_len_str, items_list, items_tuple, items_str, seqItems_list, seqItems_tuple, seqItems_str, asInt_int, bindT_1, bindT_2, bindT_3, sub_tuple_0, sub_tuple_1, sub_list_0, bin_add_int, bin_sub_int, slice_list, slice_tuple, slice_str, unpack_1, unpack_2, unpack_3, thaw_no, X.has, hass, hasO, It.has, thawM_own, Nat.reduceBEq, Nat.reduceAdd, Bool.or_false, Bool.false_or, Bool.or_true, Bool.true_or, Bool.or_self, ha, after, scalar])]
    have hsg : (fx prog 15).call f_signs_of [dBox cs t, .int (n : Nat)] = _ := hsg
    rw [execs_next ((exec_if_false (by simp -dsimp only [execs, exec, ev, evs, evO, evIf, evIt, List.map_cons, List.map_nil, thawM_dat, thaw_un, thaw_nil, thaw_sl, rep_0, rep_1, rep_2, rep_3, rep_4, rep_5, rep_6, rep_7, rep_8, rep_9, rep_10, rep_11, rep_12, rep_13, rep_14,
    List.append_nil, List.cons_append, List.nil_append, List.getElem?_cons_zero, List.getElem?_cons_succ, List.set_cons_zero, List.set_cons_succ, slotD, R.bnd_ok, R.bind_err, truth_bool, R.to_ok, R.to_err, then_next, then_ret, then_err, then_brk, res_ret, res_next, res_err, R.guard_true, R.clm_ok, fresh,
    isi_int_int, isi_int_bool, isi_int_str, isi_int_tuple, isi_int_list, isi_str_int, isi_str_bool, isi_str_str, isi_str_tuple, isi_str_list, isi_tuple_tuple, isi_tuple_str, isi_tuple_list, isi_list_list, isi_list_tuple, Bool.not_true, Bool.not_false,
    cmp_lt_int, cmp_gt_int, cmp_le_int, cmp_ge_int, cmp_eq_int, cmp_ne_int, cmp_lt_str, cmp_gt_str, cmp_eq_str, cmp_ne_str, cmp_in_sign, cmp_notin_sign, cmp_isnot_bool, cmp_is_bool, cmp_eq_bool, cmp_ne_bool,
    blt_len_list, blt_len_tuple, blt_len_str, items_list, items_tuple, items_str, seqItems_list, seqItems_tuple, seqItems_str, asInt_int, bindT_1, bindT_2, bindT_3, sub_tuple_0, sub_tuple_1, sub_list_0, bin_add_int, bin_sub_int, slice_list, slice_tuple, slice_str, unpack_1, unpack_2, unpack_3, thaw_no, X.has, hass, hasO, It.has, thawM_own, Nat.reduceBEq, Nat.reduceAdd, Bool.or_false, Bool.false_or, Bool.or_true, Bool.true_or, Bool.or_self, hsg, cmp_ne_self (shp_signs (signsOf c t))])).trans rfl)]
    rfl
  · subst hρ
    have hall : (fx prog 15).call f_all_signs [dBox cs t] = _ := all_signs_t (k := 10) B
    have hheld : bltD .sortedSet [.list ((cs.zipIdx.flatMap fun p => signsOf p.1 t).map fun s => D.str [s])] = .ok (.list ((shownSigns cs t).map fun s => D.str [s])) := by
      have e1 : (cs.zipIdx.flatMap fun p => signsOf p.1 t) = cs.flatMap fun c => signsOf c t := zip_flat (fun c => signsOf c t) cs 0
      rw [e1, sortSet_strs (l := (cs.flatMap fun c => signsOf c t).map fun s => [s]) (by rw [List.map_map]; rfl) (by
        rw [List.length_map]
        have := flat_le (cs := cs) (t := t)
        have := B.few
        omega), held_ok, List.map_map]
      rfl
    rw [execs_next ((exec_if_false (by simp -dsimp only [execs, exec, ev, evs, evO, evIf, evIt, List.map_cons, List.map_nil, thawM_dat, thaw_un, thaw_nil, thaw_sl, rep_0, rep_1, rep_2, rep_3, rep_4, rep_5, rep_6, rep_7, rep_8, rep_9, rep_10, rep_11, rep_12, rep_13, rep_14,
    List.append_nil, List.cons_append, List.nil_append, List.getElem?_cons_zero, List.getElem?_cons_succ, List.set_cons_zero, List.set_cons_succ, slotD, R.bnd_ok, R.bind_err, truth_bool, R.to_ok, R.to_err, then_next, then_ret, then_err, then_brk, res_ret, res_next, res_err, R.guard_true, R.clm_ok, fresh,
    isi_int_int, isi_int_bool, isi_int_str, isi_int_tuple, isi_int_list, isi_str_int, isi_str_bool, isi_str_str, isi_str_tuple, isi_str_list, isi_tuple_tuple, isi_tuple_str, isi_tuple_list, isi_list_list, isi_list_tuple, Bool.not_true, Bool.not_false,
    cmp_lt_int, cmp_gt_int, cmp_le_int, cmp_ge_int, cmp_eq_int, cmp_ne_int, cmp_lt_str, cmp_gt_str, cmp_eq_str, cmp_ne_str, cmp_in_sign, cmp_notin_sign, cmp_isnot_bool, cmp_is_bool, cmp_eq_bool, cmp_ne_bool,
    blt_len_list, blt_len_tuple, blt_len_str, items_list, items_tuple, items_str, seqItems_list, seqItems_tuple, seqItems_str, asInt_int, bindT_1, bindT_2, bindT_3, sub_tuple_0, sub_tuple_1, sub_list_0, bin_add_int, bin_sub_int, slice_list, slice_tuple, slice_str, unpack_1, unpack_2, unpack_3, thaw_no, X.has, hass, hasO, It.has, thawM_own, Nat.reduceBEq, Nat.reduceAdd, Bool.or_false, Bool.false_or, Bool.or_true, Bool.true_or, Bool.or_self, hall, hheld, cmp_ne_self (shp_signs (shownSigns cs t))])).trans rfl)]
    refine for_res (fun (pre : List Nat) ρ => ∃ x10, ρ = [.dat S, .dat (dBox cs t), .dat (.str w), .dat (dTs cs), .dat (dTw t), .dat (.str SIGNS), .dat (.list ((cs.zipIdx.flatMap fun p => signsOf p.1 t).map fun s => D.str [s])), sl x7, sl x8, sl x9, sl x10, .un, .un, .un]) (evIt_val (l := [97, 98, 99, 100, 110, 117, 48, 54, 56, 57]) (e := fun c => D.str [c]) (by simp -dsimp only [execs, exec, ev, evs, evO, evIf, evIt, List.map_cons, List.map_nil, thawM_dat, thaw_un, thaw_nil, thaw_sl, rep_0, rep_1, rep_2, rep_3, rep_4, rep_5, rep_6, rep_7, rep_8, rep_9, rep_10, rep_11, rep_12, rep_13, rep_14,
    List.append_nil, List.cons_append, List.nil_append, List.getElem?_cons_zero, List.getElem?_cons_succ, List.set_cons_zero, List.set_cons_succ, slotD, R.bnd_ok, R.bind_err, truth_bool, R.to_ok, R.to_err, then_next, then_ret, then_err, then_brk, res_ret, res_next, res_err, R.guard_true, R.clm_ok, fresh,
    isi_int_int, isi_int_bool, isi_int_str, isi_int_tuple, isi_int_list, isi_str_int, isi_str_bool, isi_str_str, isi_str_tuple, isi_str_list, isi_tuple_tuple, isi_tuple_str, isi_tuple_list, isi_list_list, isi_list_tuple, Bool.not_true, Bool.not_false,
    cmp_lt_int, cmp_gt_int, cmp_le_int, cmp_ge_int, cmp_eq_int, cmp_ne_int, cmp_lt_str, cmp_gt_str, cmp_eq_str, cmp_ne_str, cmp_in_sign, cmp_notin_sign, cmp_isnot_bool, cmp_is_bool, cmp_eq_bool, cmp_ne_bool,
    blt_len_list, blt_len_tuple, blt_len_str, items_list, items_tuple, items_str, seqItems_list, seqItems_tuple, seqItems_str, asInt_int, bindT_1, bindT_2, bindT_3, sub_tuple_0, sub_tuple_1, sub_list_0, bin_add_int, bin_sub_int, slice_list, slice_tuple, slice_str, unpack_1, unpack_2, unpack_3, thaw_no, X.has, hass, hasO, It.has, thawM_own, Nat.reduceBEq, Nat.reduceAdd, Bool.or_false, Bool.false_or, Bool.or_true, Bool.true_or, Bool.or_self]; rfl) rfl) ?_ (fun pre post s ρ hp ⟨x10, hρ⟩ => ?_) (fun ρ' ⟨x10, hρ⟩ => ?_)
    · exact ⟨none, by simp -dsimp only [execs, exec, ev, evs, evO, evIf, evIt, List.map_cons, List.map_nil, thawM_dat, thaw_un, thaw_nil, thaw_sl, rep_0, rep_1, rep_2, rep_3, rep_4, rep_5, rep_6, rep_7, rep_8, rep_9, rep_10, rep_11, rep_12, rep_13, rep_14,
    List.append_nil, List.cons_append, List.nil_append, List.getElem?_cons_zero, List.getElem?_cons_succ, List.set_cons_zero, List.set_cons_succ, slotD, R.bnd_ok, R.bind_err, truth_bool, R.to_ok, R.to_err, then_next, then_ret, then_err, then_brk, res_ret, res_next, res_err, R.guard_true, R.clm_ok, fresh,
    isi_int_int, isi_int_bool, isi_int_str, isi_int_tuple, isi_int_list, isi_str_int, isi_str_bool, isi_str_str, isi_str_tuple, isi_str_list, isi_tuple_tuple, isi_tuple_str, isi_tuple_list, isi_list_list, isi_list_tuple, Bool.not_true, Bool.not_false,
    cmp_lt_int, cmp_gt_int, cmp_le_int, cmp_ge_int, cmp_eq_int, cmp_ne_int, cmp_lt_str, cmp_gt_str, cmp_eq_str, cmp_ne_str, cmp_in_sign, cmp_notin_sign, cmp_isnot_bool, cmp_is_bool, cmp_eq_bool, cmp_ne_bool,
    blt_len_list, blt_len_tuple, blt_len_str, items_list, items_tuple, items_str, seqItems_list, seqItems_tuple, seqItems_str, asInt_int, bindT_1, bindT_2, bindT_3, sub_tuple_0, sub_tuple_1, sub_list_0, bin_add_int, bin_sub_int, slice_list, slice_tuple, slice_str, unpack_1, unpack_2, unpack_3, thaw_no, X.has, hass, hasO, It.has, thawM_own, Nat.reduceBEq, Nat.reduceAdd, Bool.or_false, Bool.false_or, Bool.or_true, Bool.true_or, Bool.or_self]; rfl⟩
    · subst hρ
      have hs : s ∈ SIGNS := by
        have : s ∈ [97, 98, 99, 100, 110, 117, 48, 54, 56, 57] := by rw [hp]; simp
        simp only [List.mem_cons, List.not_mem_nil, or_false] at this
        rcases this with e | e | e | e | e | e | e | e | e | e <;> (rw [e]; decide)
      have hcw : (fx prog 15).call f_cubes_with [dBox cs t, .str [s]] = _ := cubes_with_t (k := 10) B hs
      refine NextP.mk (ρ' := [.dat S, .dat (dBox cs t), .dat (.str w), .dat (dTs cs), .dat (dTw t), .dat (.str SIGNS), .dat (.list ((cs.zipIdx.flatMap fun p => signsOf p.1 t).map fun s => D.str [s])), sl x7, sl x8, sl x9, .dat (.str [s]), .un, .un, .un]) ?_ ⟨some (.str [s]), rfl⟩
      simp only [unpack_1, unpack_2, unpack_3, then_next, List.set_cons_zero, List.set_cons_succ]
      rw [execs_next ((exec_if_false (by
        simp -dsimp only [execs, exec, ev, evs, evO, evIf, evIt, List.map_cons, List.map_nil, thawM_dat, thaw_un, thaw_nil, thaw_sl, rep_0, rep_1, rep_2, rep_3, rep_4, rep_5, rep_6, rep_7, rep_8, rep_9, rep_10, rep_11, rep_12, rep_13, rep_14,
    List.append_nil, List.cons_append, List.nil_append, List.getElem?_cons_zero, List.getElem?_cons_succ, List.set_cons_zero, List.set_cons_succ, slotD, R.bnd_ok, R.bind_err, truth_bool, R.to_ok, R.to_err, then_next, then_ret, then_err, then_brk, res_ret, res_next, res_err, R.guard_true, R.clm_ok, fresh,
    isi_int_int, isi_int_bool, isi_int_str, isi_int_tuple, isi_int_list, isi_str_int, isi_str_bool, isi_str_str, isi_str_tuple, isi_str_list, isi_tuple_tuple, isi_tuple_str, isi_tuple_list, isi_list_list, isi_list_tuple, Bool.not_true, Bool.not_false,
    cmp_lt_int, cmp_gt_int, cmp_le_int, cmp_ge_int, cmp_eq_int, cmp_ne_int, cmp_lt_str, cmp_gt_str, cmp_eq_str, cmp_ne_str, cmp_in_sign, cmp_notin_sign, cmp_isnot_bool, cmp_is_bool, cmp_eq_bool, cmp_ne_bool,
    blt_len_list, blt_len_tuple, blt_len_str, items_list, items_tuple, items_str, seqItems_list, seqItems_tuple, seqItems_str, asInt_int, bindT_1, bindT_2, bindT_3, sub_tuple_0, sub_tuple_1, sub_list_0, bin_add_int, bin_sub_int, slice_list, slice_tuple, slice_str, unpack_1, unpack_2, unpack_3, thaw_no, X.has, hass, hasO, It.has, thawM_own, Nat.reduceBEq, Nat.reduceAdd, Bool.or_false, Bool.false_or, Bool.or_true, Bool.true_or, Bool.or_self, hcw, dTs, enumD_map]
        rw [filtR_map (p := fun p : W × Nat => shows p.1 t s) (g := fun p => D.int (p.2 : Nat)) (fun p hp => by
          simp -dsimp only [execs, exec, ev, evs, evO, evIf, evIt, List.map_cons, List.map_nil, thawM_dat, thaw_un, thaw_nil, thaw_sl, rep_0, rep_1, rep_2, rep_3, rep_4, rep_5, rep_6, rep_7, rep_8, rep_9, rep_10, rep_11, rep_12, rep_13, rep_14,
    List.append_nil, List.cons_append, List.nil_append, List.getElem?_cons_zero, List.getElem?_cons_succ, List.set_cons_zero, List.set_cons_succ, slotD, R.bnd_ok, R.bind_err, truth_bool, R.to_ok, R.to_err, then_next, then_ret, then_err, then_brk, res_ret, res_next, res_err, R.guard_true, R.clm_ok, fresh,
    isi_int_int, isi_int_bool, isi_int_str, isi_int_tuple, isi_int_list, isi_str_int, isi_str_bool, isi_str_str, isi_str_tuple, isi_str_list, isi_tuple_tuple, isi_tuple_str, isi_tuple_list, isi_list_list, isi_list_tuple, Bool.not_true, Bool.not_false,
    cmp_lt_int, cmp_gt_int, cmp_le_int, cmp_ge_int, cmp_eq_int, cmp_ne_int, cmp_lt_str, cmp_gt_str, cmp_eq_str, cmp_ne_str, cmp_in_sign, cmp_notin_sign, cmp_isnot_bool, cmp_is_bool, cmp_eq_bool, cmp_ne_bool,
    blt_len_list, blt_len_tuple, blt_len_str, items_list, items_tuple, items_str, seqItems_list, seqItems_tuple, seqItems_str, asInt_int, bindT_1, bindT_2, bindT_3, sub_tuple_0, sub_tuple_1, sub_list_0, bin_add_int, bin_sub_int, slice_list, slice_tuple, slice_str, unpack_1, unpack_2, unpack_3, thaw_no, X.has, hass, hasO, It.has, thawM_own, Nat.reduceBEq, Nat.reduceAdd, Bool.or_false, Bool.false_or, Bool.or_true, Bool.true_or, Bool.or_self, law_does_ev (k := 14) B.tw (sign_ne hs)]
          cases shows p.1 t s <;> rfl)]
        have e1 : (((cs.zipIdx).filter fun p => shows p.1 t s).map fun p => D.int (p.2 : Nat)) = (findCubes cs t s).map fun n => D.int (n : Nat) := by unfold findCubes; rw [List.map_map]; rfl
        simp -dsimp only [execs, exec, ev, evs, evO, evIf, evIt, List.map_cons, List.map_nil, thawM_dat, thaw_un, thaw_nil, thaw_sl, rep_0, rep_1, rep_2, rep_3, rep_4, rep_5, rep_6, rep_7, rep_8, rep_9, rep_10, rep_11, rep_12, rep_13, rep_14,
    List.append_nil, List.cons_append, List.nil_append, List.getElem?_cons_zero, List.getElem?_cons_succ, List.set_cons_zero, List.set_cons_succ, slotD, R.bnd_ok, R.bind_err, truth_bool, R.to_ok, R.to_err, then_next, then_ret, then_err, then_brk, res_ret, res_next, res_err, R.guard_true, R.clm_ok, fresh,
    isi_int_int, isi_int_bool, isi_int_str, isi_int_tuple, isi_int_list, isi_str_int, isi_str_bool, isi_str_str, isi_str_tuple, isi_str_list, isi_tuple_tuple, isi_tuple_str, isi_tuple_list, isi_list_list, isi_list_tuple, Bool.not_true, Bool.not_false,
    cmp_lt_int, cmp_gt_int, cmp_le_int, cmp_ge_int, cmp_eq_int, cmp_ne_int, cmp_lt_str, cmp_gt_str, cmp_eq_str, cmp_ne_str, cmp_in_sign, cmp_notin_sign, cmp_isnot_bool, cmp_is_bool, cmp_eq_bool, cmp_ne_bool,
    blt_len_list, blt_len_tuple, blt_len_str, items_list, items_tuple, items_str, seqItems_list, seqItems_tuple, seqItems_str, asInt_int, bindT_1, bindT_2, bindT_3, sub_tuple_0, sub_tuple_1, sub_list_0, bin_add_int, bin_sub_int, slice_list, slice_tuple, slice_str, unpack_1, unpack_2, unpack_3, thaw_no, X.has, hass, hasO, It.has, thawM_own, Nat.reduceBEq, Nat.reduceAdd, Bool.or_false, Bool.false_or, Bool.or_true, Bool.true_or, Bool.or_self, e1, cmp_ne_self (shp_nats (findCubes cs t s))])).trans rfl)]
      rfl
    · subst hρ
      rw [execs_next (ρ' := [.dat S, .dat (dBox cs t), .dat (.str w), .dat (dTs cs), .dat (dTw t), .dat (.str SIGNS), .dat (.list ((cs.zipIdx.flatMap fun p => signsOf p.1 t).map fun s => D.str [s])), sl x7, sl x8, sl x9, sl x10, .dat odd, .dat bad, .un]) (by simp -dsimp only [execs, exec, ev, evs, evO, evIf, evIt, List.map_cons, List.map_nil, thawM_dat, thaw_un, thaw_nil, thaw_sl, rep_0, rep_1, rep_2, rep_3, rep_4, rep_5, rep_6, rep_7, rep_8, rep_9, rep_10, rep_11, rep_12, rep_13, rep_14,
    List.append_nil, List.cons_append, List.nil_append, List.getElem?_cons_zero, List.getElem?_cons_succ, List.set_cons_zero, List.set_cons_succ, slotD, R.bnd_ok, R.bind_err, truth_bool, R.to_ok, R.to_err, then_next, then_ret, then_err, then_brk, res_ret, res_next, res_err, R.guard_true, R.clm_ok, fresh,
    isi_int_int, isi_int_bool, isi_int_str, isi_int_tuple, isi_int_list, isi_str_int, isi_str_bool, isi_str_str, isi_str_tuple, isi_str_list, isi_tuple_tuple, isi_tuple_str, isi_tuple_list, isi_list_list, isi_list_tuple, Bool.not_true, Bool.not_false,
    cmp_lt_int, cmp_gt_int, cmp_le_int, cmp_ge_int, cmp_eq_int, cmp_ne_int, cmp_lt_str, cmp_gt_str, cmp_eq_str, cmp_ne_str, cmp_in_sign, cmp_notin_sign, cmp_isnot_bool, cmp_is_bool, cmp_eq_bool, cmp_ne_bool,
    blt_len_list, blt_len_tuple, blt_len_str, items_list, items_tuple, items_str, seqItems_list, seqItems_tuple, seqItems_str, asInt_int, bindT_1, bindT_2, bindT_3, sub_tuple_0, sub_tuple_1, sub_list_0, bin_add_int, bin_sub_int, slice_list, slice_tuple, slice_str, unpack_1, unpack_2, unpack_3, thaw_no, X.has, hass, hasO, It.has, thawM_own, Nat.reduceBEq, Nat.reduceAdd, Bool.or_false, Bool.false_or, Bool.or_true, Bool.true_or, Bool.or_self, eodd, ebad, after, scalar])]
      have hneg : (.int (-1) : D) = .int (-1) := rfl
      rw [execs_next (ρ' := [.dat S, .dat (dBox cs t), .dat (.str w), .dat (dTs cs), .dat (dTw t), .dat (.str SIGNS), .dat (.list ((cs.zipIdx.flatMap fun p => signsOf p.1 t).map fun s => D.str [s])), .dat num, sl x8, sl x9, sl x10, .dat odd, .dat bad, .un]) (by
        have e1 : bltD .len [dTs cs] = .ok (.int (cs.length : Nat)) := by unfold dTs; rw [blt_len_tuple, List.length_map]
        simp -dsimp only [execs, exec, ev, evs, evO, evIf, evIt, List.map_cons, List.map_nil, thawM_dat, thaw_un, thaw_nil, thaw_sl, rep_0, rep_1, rep_2, rep_3, rep_4, rep_5, rep_6, rep_7, rep_8, rep_9, rep_10, rep_11, rep_12, rep_13, rep_14,
    List.append_nil, List.cons_append, List.nil_append, List.getElem?_cons_zero, List.getElem?_cons_succ, List.set_cons_zero, List.set_cons_succ, slotD, R.bnd_ok, R.bind_err, truth_bool, R.to_ok, R.to_err, then_next, then_ret, then_err, then_brk, res_ret, res_next, res_err, R.guard_true, R.clm_ok, fresh,
    isi_int_int, isi_int_bool, isi_int_str, isi_int_tuple, isi_int_list, isi_str_int, isi_str_bool, isi_str_str, isi_str_tuple, isi_str_list, isi_tuple_tuple, isi_tuple_str, isi_tuple_list, isi_list_list, isi_list_tuple, Bool.not_true, Bool.not_false,
    cmp_lt_int, cmp_gt_int, cmp_le_int, cmp_ge_int, cmp_eq_int, cmp_ne_int, cmp_lt_str, cmp_gt_str, cmp_eq_str, cmp_ne_str, cmp_in_sign, cmp_notin_sign, cmp_isnot_bool, cmp_is_bool, cmp_eq_bool, cmp_ne_bool,
    blt_len_list, blt_len_tuple, blt_len_str, items_list, items_tuple, items_str, seqItems_list, seqItems_tuple, seqItems_str, asInt_int, bindT_1, bindT_2, bindT_3, sub_tuple_0, sub_tuple_1, sub_list_0, bin_add_int, bin_sub_int, slice_list, slice_tuple, slice_str, unpack_1, unpack_2, unpack_3, thaw_no, X.has, hass, hasO, It.has, thawM_own, Nat.reduceBEq, Nat.reduceAdd, Bool.or_false, Bool.false_or, Bool.or_true, Bool.true_or, Bool.or_self, e1, d3, enum']
        rw [after_id (by simp -dsimp only [execs, exec, ev, evs, evO, evIf, evIt, List.map_cons, List.map_nil, thawM_dat, thaw_un, thaw_nil, thaw_sl, rep_0, rep_1, rep_2, rep_3, rep_4, rep_5, rep_6, rep_7, rep_8, rep_9, rep_10, rep_11, rep_12, rep_13, rep_14,
    List.append_nil, List.cons_append, List.nil_append, List.getElem?_cons_zero, List.getElem?_cons_succ, List.set_cons_zero, List.set_cons_succ, slotD, R.bnd_ok, R.bind_err, truth_bool, R.to_ok, R.to_err, then_next, then_ret, then_err, then_brk, res_ret, res_next, res_err, R.guard_true, R.clm_ok, fresh,
    isi_int_int, isi_int_bool, isi_int_str, isi_int_tuple, isi_int_list, isi_str_int, isi_str_bool, isi_str_str, isi_str_tuple, isi_str_list, isi_tuple_tuple, isi_tuple_str, isi_tuple_list, isi_list_list, isi_list_tuple, Bool.not_true, Bool.not_false,
    cmp_lt_int, cmp_gt_int, cmp_le_int, cmp_ge_int, cmp_eq_int, cmp_ne_int, cmp_lt_str, cmp_gt_str, cmp_eq_str, cmp_ne_str, cmp_in_sign, cmp_notin_sign, cmp_isnot_bool, cmp_is_bool, cmp_eq_bool, cmp_ne_bool,
    blt_len_list, blt_len_tuple, blt_len_str, items_list, items_tuple, items_str, seqItems_list, seqItems_tuple, seqItems_str, asInt_int, bindT_1, bindT_2, bindT_3, sub_tuple_0, sub_tuple_1, sub_list_0, bin_add_int, bin_sub_int, slice_list, slice_tuple, slice_str, unpack_1, unpack_2, unpack_3, thaw_no, X.has, hass, hasO, It.has, thawM_own, Nat.reduceBEq, Nat.reduceAdd, Bool.or_false, Bool.false_or, Bool.or_true, Bool.true_or, Bool.or_self])]
        rfl)]
      rw [execs_next (ρ' := [.dat S, .dat (dBox cs t), .dat (.str w), .dat (dTs cs), .dat (dTw t), .dat (.str SIGNS), .dat (.list ((cs.zipIdx.flatMap fun p => signsOf p.1 t).map fun s => D.str [s])), .dat num, sl x8, sl x9, .dat sig, .dat odd, .dat bad, .un]) (by
        simp -dsimp only [execs, exec, ev, evs, evO, evIf, evIt, List.map_cons, List.map_nil, thawM_dat, thaw_un, thaw_nil, thaw_sl, rep_0, rep_1, rep_2, rep_3, rep_4, rep_5, rep_6, rep_7, rep_8, rep_9, rep_10, rep_11, rep_12, rep_13, rep_14,
    List.append_nil, List.cons_append, List.nil_append, List.getElem?_cons_zero, List.getElem?_cons_succ, List.set_cons_zero, List.set_cons_succ, slotD, R.bnd_ok, R.bind_err, truth_bool, R.to_ok, R.to_err, then_next, then_ret, then_err, then_brk, res_ret, res_next, res_err, R.guard_true, R.clm_ok, fresh,
    isi_int_int, isi_int_bool, isi_int_str, isi_int_tuple, isi_int_list, isi_str_int, isi_str_bool, isi_str_str, isi_str_tuple, isi_str_list, isi_tuple_tuple, isi_tuple_str, isi_tuple_list, isi_list_list, isi_list_tuple, Bool.not_true, Bool.not_false,
    cmp_lt_int, cmp_gt_int, cmp_le_int, cmp_ge_int, cmp_eq_int, cmp_ne_int, cmp_lt_str, cmp_gt_str, cmp_eq_str, cmp_ne_str, cmp_in_sign, cmp_notin_sign, cmp_isnot_bool, cmp_is_bool, cmp_eq_bool, cmp_ne_bool,
    blt_len_list, blt_len_tuple, blt_len_str, items_list, items_tuple, items_str, seqItems_list, seqItems_tuple, seqItems_str, asInt_int, bindT_1, bindT_2, bindT_3, sub_tuple_0, sub_tuple_1, sub_list_0, bin_add_int, bin_sub_int, slice_list, slice_tuple, slice_str, unpack_1, unpack_2, unpack_3, thaw_no, X.has, hass, hasO, It.has, thawM_own, Nat.reduceBEq, Nat.reduceAdd, Bool.or_false, Bool.false_or, Bool.or_true, Bool.true_or, Bool.or_self, d4, esig']
        rw [after_id (by simp -dsimp only [execs, exec, ev, evs, evO, evIf, evIt, List.map_cons, List.map_nil, thawM_dat, thaw_un, thaw_nil, thaw_sl, rep_0, rep_1, rep_2, rep_3, rep_4, rep_5, rep_6, rep_7, rep_8, rep_9, rep_10, rep_11, rep_12, rep_13, rep_14,
    List.append_nil, List.cons_append, List.nil_append, List.getElem?_cons_zero, List.getElem?_cons_succ, List.set_cons_zero, List.set_cons_succ, slotD, R.bnd_ok, R.bind_err, truth_bool, R.to_ok, R.to_err, then_next, then_ret, then_err, then_brk, res_ret, res_next, res_err, R.guard_true, R.clm_ok, fresh,
    isi_int_int, isi_int_bool, isi_int_str, isi_int_tuple, isi_int_list, isi_str_int, isi_str_bool, isi_str_str, isi_str_tuple, isi_str_list, isi_tuple_tuple, isi_tuple_str, isi_tuple_list, isi_list_list, isi_list_tuple, Bool.not_true, Bool.not_false,
    cmp_lt_int, cmp_gt_int, cmp_le_int, cmp_ge_int, cmp_eq_int, cmp_ne_int, cmp_lt_str, cmp_gt_str, cmp_eq_str, cmp_ne_str, cmp_in_sign, cmp_notin_sign, cmp_isnot_bool, cmp_is_bool, cmp_eq_bool, cmp_ne_bool,
    blt_len_list, blt_len_tuple, blt_len_str, items_list, items_tuple, items_str, seqItems_list, seqItems_tuple, seqItems_str, asInt_int, bindT_1, bindT_2, bindT_3, sub_tuple_0, sub_tuple_1, sub_list_0, bin_add_int, bin_sub_int, slice_list, slice_tuple, slice_str, unpack_1, unpack_2, unpack_3, thaw_no, X.has, hass, hasO, It.has, thawM_own, Nat.reduceBEq, Nat.reduceAdd, Bool.or_false, Bool.false_or, Bool.or_true, Bool.true_or, Bool.or_self])]
        rfl)]
      rw [execs_next ((exec_if_false (by simp -dsimp only [execs, exec, ev, evs, evO, evIf, evIt, List.map_cons, List.map_nil, thawM_dat, thaw_un, thaw_nil, thaw_sl, rep_0, rep_1, rep_2, rep_3, rep_4, rep_5, rep_6, rep_7, rep_8, rep_9, rep_10, rep_11, rep_12, rep_13, rep_14,
    List.append_nil, List.cons_append, List.nil_append, List.getElem?_cons_zero, List.getElem?_cons_succ, List.set_cons_zero, List.set_cons_succ, slotD, R.bnd_ok, R.bind_err, truth_bool, R.to_ok, R.to_err, then_next, then_ret, then_err, then_brk, res_ret, res_next, res_err, R.guard_true, R.clm_ok, fresh,
    isi_int_int, isi_int_bool, isi_int_str, isi_int_tuple, isi_int_list, isi_str_int, isi_str_bool, isi_str_str, isi_str_tuple, isi_str_list, isi_tuple_tuple, isi_tuple_str, isi_tuple_list, isi_list_list, isi_list_tuple, Bool.not_true, Bool.not_false,
    cmp_lt_int, cmp_gt_int, cmp_le_int, cmp_ge_int, cmp_eq_int, cmp_ne_int, cmp_lt_str, cmp_gt_str, cmp_eq_str, cmp_ne_str, cmp_in_sign, cmp_notin_sign, cmp_isnot_bool, cmp_is_bool, cmp_eq_bool, cmp_ne_bool,
    blt_len_list, blt_len_tuple, blt_len_str, items_list, items_tuple, items_str, seqItems_list, seqItems_tuple, seqItems_str, asInt_int, bindT_1, bindT_2, bindT_3, sub_tuple_0, sub_tuple_1, sub_list_0, bin_add_int, bin_sub_int, slice_list, slice_tuple, slice_str, unpack_1, unpack_2, unpack_3, thaw_no, X.has, hass, hasO, It.has, thawM_own, Nat.reduceBEq, Nat.reduceAdd, Bool.or_false, Bool.false_or, Bool.or_true, Bool.true_or, Bool.or_self, hob15, hbw, hrest _ 12])).trans rfl)]
      have l0 : (fx prog 15).call f__law_error [.int 0, odd, num] = .ok (.int 0) := law_error_0 (k := 14) (c := 1) (signs_of_bad (k := 12) (hob 9)) (by decide)
      have l1 : (fx prog 15).call f__law_error [.int 1, odd, sig] = .ok (.int 0) := law_error_1 (k := 14) (c := 1) (cubes_with_bad (k := 12) (hob 9)) (by decide)
      have l2 : (fx prog 15).call f__law_error [.int 2, odd, .int 0] = .ok (.int 0) := law_error_2 (k := 14) (c := 1) (all_signs_bad (k := 12) (hob 9)) (by decide)
      have l3 : (fx prog 15).call f__law_error [.int 0, dBox cs t, num] = .ok (.int 1) := law_error_0 (k := 14) (c := 2) (signs_of_num (k := 9) B (hn0 12)) (by decide)
      have l4 : (fx prog 15).call f__law_error [.int 1, dBox cs t, sig] = .ok (.int 2) := law_error_1 (k := 14) (c := 3) (cubes_with_sign (k := 9) B (hs0 12)) (by decide)
      rw [execs_next (ρ' := [.dat S, .dat (dBox cs t), .dat (.str w), .dat (dTs cs), .dat (dTw t), .dat (.str SIGNS), .dat (.list ((cs.zipIdx.flatMap fun p => signsOf p.1 t).map fun s => D.str [s])), .dat num, sl x8, sl x9, .dat sig, .dat odd, .dat bad, .own (.list [.int 0, .int 0, .int 0])]) (by simp -dsimp only [execs, exec, ev, evs, evO, evIf, evIt, List.map_cons, List.map_nil, thawM_dat, thaw_un, thaw_nil, thaw_sl, rep_0, rep_1, rep_2, rep_3, rep_4, rep_5, rep_6, rep_7, rep_8, rep_9, rep_10, rep_11, rep_12, rep_13, rep_14,
    List.append_nil, List.cons_append, List.nil_append, List.getElem?_cons_zero, List.getElem?_cons_succ, List.set_cons_zero, List.set_cons_succ, slotD, R.bnd_ok, R.bind_err, truth_bool, R.to_ok, R.to_err, then_next, then_ret, then_err, then_brk, res_ret, res_next, res_err, R.guard_true, R.clm_ok, fresh,
    isi_int_int, isi_int_bool, isi_int_str, isi_int_tuple, isi_int_list, isi_str_int, isi_str_bool, isi_str_str, isi_str_tuple, isi_str_list, isi_tuple_tuple, isi_tuple_str, isi_tuple_list, isi_list_list, isi_list_tuple, Bool.not_true, Bool.not_false,
    cmp_lt_int, cmp_gt_int, cmp_le_int, cmp_ge_int, cmp_eq_int, cmp_ne_int, cmp_lt_str, cmp_gt_str, cmp_eq_str, cmp_ne_str, cmp_in_sign, cmp_notin_sign, cmp_isnot_bool, cmp_is_bool, cmp_eq_bool, cmp_ne_bool,
    blt_len_list, blt_len_tuple, blt_len_str, items_list, items_tuple, items_str, seqItems_list, seqItems_tuple, seqItems_str, asInt_int, bindT_1, bindT_2, bindT_3, sub_tuple_0, sub_tuple_1, sub_list_0, bin_add_int, bin_sub_int, slice_list, slice_tuple, slice_str, unpack_1, unpack_2, unpack_3, thaw_no, X.has, hass, hasO, It.has, thawM_own, Nat.reduceBEq, Nat.reduceAdd, Bool.or_false, Bool.false_or, Bool.or_true, Bool.true_or, Bool.or_self, l0, l1, l2, after, scalar])]
      rw [execs_next (ρ' := [.dat S, .dat (dBox cs t), .dat (.str w), .dat (dTs cs), .dat (dTw t), .dat (.str SIGNS), .dat (.list ((cs.zipIdx.flatMap fun p => signsOf p.1 t).map fun s => D.str [s])), .dat num, sl x8, sl x9, .dat sig, .dat odd, .dat bad, .dat (.list [.int 0, .int 0, .int 0, .int 1, .int 2])]) (by
        have ha : binD .add (.list [.int 0, .int 0, .int 0]) (.list [.int 1, .int 2]) = .ok (.list [.int 0, .int 0, .int 0, .int 1, .int 2]) := rfl
        simp -dsimp only [execs, exec, ev, evs, evO, evIf, evIt, List.map_cons, List.map_nil, thawM_dat, thaw_un, thaw_nil, thaw_sl, rep_0, rep_1, rep_2, rep_3, rep_4, rep_5, rep_6, rep_7, rep_8, rep_9, rep_10, rep_11, rep_12, rep_13, rep_14,
    List.append_nil, List.cons_append, List.nil_append, List.getElem?_cons_zero, List.getElem?_cons_succ, List.set_cons_zero, List.set_cons_succ, slotD, R.bnd_ok, R.bind_err, truth_bool, R.to_ok, R.to_err, then_next, then_ret, then_err, then_brk, res_ret, res_next, res_err, R.guard_true, R.clm_ok, fresh,
    isi_int_int, isi_int_bool, isi_int_str, isi_int_tuple, isi_int_list, isi_str_int, isi_str_bool, isi_str_str, isi_str_tuple, isi_str_list, isi_tuple_tuple, isi_tuple_str, isi_tuple_list, isi_list_list, isi_list_tuple, Bool.not_true, Bool.not_false,
    cmp_lt_int, cmp_gt_int, cmp_le_int, cmp_ge_int, cmp_eq_int, cmp_ne_int, cmp_lt_str, cmp_gt_str, cmp_eq_str, cmp_ne_str, cmp_in_sign, cmp_notin_sign, cmp_isnot_bool, cmp_is_bool, cmp_eq_bool, cmp_ne_bool,
    blt_len_list, blt_len_tuple, blt_len_str, items_list, items_tuple, items_str, seqItems_list, seqItems_tuple, seqItems_str, asInt_int, bindT_1, bindT_2, bindT_3, sub_tuple_0, sub_tuple_1, sub_list_0, bin_add_int, bin_sub_int, slice_list, slice_tuple, slice_str, unpack_1, unpack_2, unpack_3, thaw_no, X.has, hass, hasO, It.has, thawM_own, Nat.reduceBEq, Nat.reduceAdd, Bool.or_false, Bool.false_or, Bool.or_true, Bool.true_or, Bool.or_self, l3, l4, ha, after, scalar])]
      have hq : cmpD .eq (.list [.int 0, .int 0, .int 0, .int 1, .int 2]) (.list [.int 0, .int 0, .int 0, .int 1, .int 2]) = .ok true := rfl
      simp -dsimp only [execs, exec, ev, evs, evO, evIf, evIt, List.map_cons, List.map_nil, thawM_dat, thaw_un, thaw_nil, thaw_sl, rep_0, rep_1, rep_2, rep_3, rep_4, rep_5, rep_6, rep_7, rep_8, rep_9, rep_10, rep_11, rep_12, rep_13, rep_14,
    List.append_nil, List.cons_append, List.nil_append, List.getElem?_cons_zero, List.getElem?_cons_succ, List.set_cons_zero, List.set_cons_succ, slotD, R.bnd_ok, R.bind_err, truth_bool, R.to_ok, R.to_err, then_next, then_ret, then_err, then_brk, res_ret, res_next, res_err, R.guard_true, R.clm_ok, fresh,
    isi_int_int, isi_int_bool, isi_int_str, isi_int_tuple, isi_int_list, isi_str_int, isi_str_bool, isi_str_str, isi_str_tuple, isi_str_list, isi_tuple_tuple, isi_tuple_str, isi_tuple_list, isi_list_list, isi_list_tuple, Bool.not_true, Bool.not_false,
    cmp_lt_int, cmp_gt_int, cmp_le_int, cmp_ge_int, cmp_eq_int, cmp_ne_int, cmp_lt_str, cmp_gt_str, cmp_eq_str, cmp_ne_str, cmp_in_sign, cmp_notin_sign, cmp_isnot_bool, cmp_is_bool, cmp_eq_bool, cmp_ne_bool,
    blt_len_list, blt_len_tuple, blt_len_str, items_list, items_tuple, items_str, seqItems_list, seqItems_tuple, seqItems_str, asInt_int, bindT_1, bindT_2, bindT_3, sub_tuple_0, sub_tuple_1, sub_list_0, bin_add_int, bin_sub_int, slice_list, slice_tuple, slice_str, unpack_1, unpack_2, unpack_3, thaw_no, X.has, hass, hasO, It.has, thawM_own, Nat.reduceBEq, Nat.reduceAdd, Bool.or_false, Bool.false_or, Bool.or_true, Bool.true_or, Bool.or_self, hq]

end K01

namespace K01
open PySem PySem.Spec PyProof.Rows L2 Ev
theorem all_mk {K : PySem.W.Frag} {h : Heap} {mg : Str → Option Value} {fa : Addr} {c0 : Addr} {c1 : Addr} {c2 : Addr} {c3 : Addr} (X : K.In h) (N : h.Ns mainGlobals mg) (hfa : mg "law" = some (.ref fa))
    (q_is_int : DefK K t_is_int)
    (q_is_sign : DefK K t_is_sign)
    (q_is_string : DefK K t_is_string)
    (q_rises : DefK K t_rises)
    (q_is_cube : DefK K t_is_cube)
    (q_are_twins : DefK K t_are_twins)
    (q_is_box : DefK K t_is_box)
    (q_is_word : DefK K t_is_word)
    (q_check_box : DefK K t_check_box)
    (q_twin_of : DefK K t_twin_of)
    (q_does_show : DefK K t_does_show)
    (q_signs_of : DefK K t_signs_of)
    (q_find_cubes : DefK K t_find_cubes)
    (q_cubes_with : DefK K t_cubes_with)
    (q_shown_signs : DefK K t_shown_signs)
    (q_all_signs : DefK K t_all_signs)
    (q__law_drawn : DefK K t__law_drawn)
    (q__law_box : DefK K t__law_box)
    (q__law_word : DefK K t__law_word)
    (q__law_does : DefK K t__law_does)
    (q__law_badbox : DefK K t__law_badbox)
    (q__law_badword : DefK K t__law_badword)
    (q__law_error : DefK K t__law_error)
    (q_law : DefK K t_law)
    (k0 : ClsK K "CubeError" c0)
    (k1 : ClsK K "InvalidBox" c1)
    (k2 : ClsK K "InvalidCube" c2)
    (k3 : ClsK K "InvalidSign" c3)
    (s0_0 : PySem.W.subIn K (.ref c0) (.ref c0) = some true)
    (s0_1 : PySem.W.subIn K (.ref c0) (.ref c1) = some false)
    (s0_2 : PySem.W.subIn K (.ref c0) (.ref c2) = some false)
    (s0_3 : PySem.W.subIn K (.ref c0) (.ref c3) = some false)
    (s1_0 : PySem.W.subIn K (.ref c1) (.ref c0) = some true)
    (s1_1 : PySem.W.subIn K (.ref c1) (.ref c1) = some true)
    (s1_2 : PySem.W.subIn K (.ref c1) (.ref c2) = some false)
    (s1_3 : PySem.W.subIn K (.ref c1) (.ref c3) = some false)
    (s2_0 : PySem.W.subIn K (.ref c2) (.ref c0) = some true)
    (s2_1 : PySem.W.subIn K (.ref c2) (.ref c1) = some false)
    (s2_2 : PySem.W.subIn K (.ref c2) (.ref c2) = some true)
    (s2_3 : PySem.W.subIn K (.ref c2) (.ref c3) = some false)
    (s3_0 : PySem.W.subIn K (.ref c3) (.ref c0) = some true)
    (s3_1 : PySem.W.subIn K (.ref c3) (.ref c1) = some false)
    (s3_2 : PySem.W.subIn K (.ref c3) (.ref c2) = some false)
    (s3_3 : PySem.W.subIn K (.ref c3) (.ref c3) = some true)
    (g_SIGNS : GvC K "SIGNS" (.str [48, 49, 50, 51, 52, 53, 54, 55, 56, 57, 97, 98, 99, 100, 101, 102, 103, 104, 105, 106, 107, 108, 109, 110, 111, 112, 113, 114, 115, 116, 117, 118, 119, 120, 121, 122]))
    (g_MAX_SIDES : GvC K "MAX_SIDES" (.int 6))
    (g_MAX_CUBES : GvC K "MAX_CUBES" (.int 6))
    (g_MAX_TWINS : GvC K "MAX_TWINS" (.int 4))
    (g_MAX_WORD : GvC K "MAX_WORD" (.int 6))
    (b_all : PySem.W.nsIn K mainGlobals "all" = some none)
    (b_bool : PySem.W.nsIn K mainGlobals "bool" = some none)
    (b_enumerate : PySem.W.nsIn K mainGlobals "enumerate" = some none)
    (b_int : PySem.W.nsIn K mainGlobals "int" = some none)
    (b_isinstance : PySem.W.nsIn K mainGlobals "isinstance" = some none)
    (b_len : PySem.W.nsIn K mainGlobals "len" = some none)
    (b_range : PySem.W.nsIn K mainGlobals "range" = some none)
    (b_set : PySem.W.nsIn K mainGlobals "set" = some none)
    (b_sorted : PySem.W.nsIn K mainGlobals "sorted" = some none)
    (b_str : PySem.W.nsIn K mainGlobals "str" = some none)
    (b_tuple : PySem.W.nsIn K mainGlobals "tuple" = some none)
    (b_zip : PySem.W.nsIn K mainGlobals "zip" = some none)
    (sp : PySem.W.specialIn K (.builtin "object.__class__") "__get__" = some (some (.builtin "getset_descriptor.__get__"))) (tk : PySem.W.takesIn K (.builtin "object.__class__") = some true) :
    ∃ (B : Bk) (t : Tx) (fd : FuncData), Tops B K mg prog G ∧ (∀ f df, prog.defs[f]? = some df → ∃ (t : Tx) (fd : FuncData), Fun K t.name t.name t.st (B.fa f) fd ∧ Binds K fd t.ps [] ∧ ckDf G t df = true) ∧
        Fun K t.name t.name t.st (B.fa 23) fd ∧ Binds K fd t.ps [] ∧ ckDf G t d_law = true ∧ t.ps = [("script" : Str)] ∧ (defScope t.st).names.lookup ("script" : Str) = some .local ∧ B.fa 23 = fa := by
  have hd : ∀ t ∈ txs, DefK K t := by
    intro t ht
    simp only [txs, List.mem_cons, List.not_mem_nil, or_false] at ht
    rcases ht with rfl | rfl | rfl | rfl | rfl | rfl | rfl | rfl | rfl | rfl | rfl | rfl | rfl | rfl | rfl | rfl | rfl | rfl | rfl | rfl | rfl | rfl | rfl | rfl
    · exact q_is_int
    · exact q_is_sign
    · exact q_is_string
    · exact q_rises
    · exact q_is_cube
    · exact q_are_twins
    · exact q_is_box
    · exact q_is_word
    · exact q_check_box
    · exact q_twin_of
    · exact q_does_show
    · exact q_signs_of
    · exact q_find_cubes
    · exact q_cubes_with
    · exact q_shown_signs
    · exact q_all_signs
    · exact q__law_drawn
    · exact q__law_box
    · exact q__law_word
    · exact q__law_does
    · exact q__law_badbox
    · exact q__law_badword
    · exact q__law_error
    · exact q_law
  have hc : ∀ i n, cls[i]? = some n → ClsK K n ([c0, c1, c2, c3].getD i 0)
    | 0, _, e => by cases e; exact k0
    | 1, _, e => by cases e; exact k1
    | 2, _, e => by cases e; exact k2
    | 3, _, e => by cases e; exact k3
    | n + 4, _, e => by cases e
  have hs : ∀ i j, i < cls.length → j < cls.length → PySem.W.subIn K (.ref ([c0, c1, c2, c3].getD i 0)) (.ref ([c0, c1, c2, c3].getD j 0)) = some (prog.sub i j)
    | 0, 0, _, _ => s0_0
    | 0, 1, _, _ => s0_1
    | 0, 2, _, _ => s0_2
    | 0, 3, _, _ => s0_3
    | 1, 0, _, _ => s1_0
    | 1, 1, _, _ => s1_1
    | 1, 2, _, _ => s1_2
    | 1, 3, _, _ => s1_3
    | 2, 0, _, _ => s2_0
    | 2, 1, _, _ => s2_1
    | 2, 2, _, _ => s2_2
    | 2, 3, _, _ => s2_3
    | 3, 0, _, _ => s3_0
    | 3, 1, _, _ => s3_1
    | 3, 2, _, _ => s3_2
    | 3, 3, _, _ => s3_3
    | 0, n + 4, _, e => absurd e (by show ¬ n + 4 < 4; omega)
    | 1, n + 4, _, e => absurd e (by show ¬ n + 4 < 4; omega)
    | 2, n + 4, _, e => absurd e (by show ¬ n + 4 < 4; omega)
    | 3, n + 4, _, e => absurd e (by show ¬ n + 4 < 4; omega)
    | n + 4, _, e, _ => absurd e (by show ¬ n + 4 < 4; omega)
  have hG : ∀ e ∈ G, GvC K e.1 e.2 := by
    intro e he
    simp only [G, List.mem_cons, List.not_mem_nil, or_false] at he
    rcases he with rfl | rfl | rfl | rfl | rfl | rfl | rfl | rfl | rfl | rfl | rfl | rfl | rfl | rfl | rfl | rfl | rfl | rfl | rfl | rfl | rfl | rfl | rfl | rfl | rfl | rfl | rfl | rfl | rfl | rfl | rfl | rfl | rfl | rfl | rfl | rfl | rfl | rfl | rfl | rfl | rfl | rfl | rfl | rfl | rfl
    · trivial
    · trivial
    · trivial
    · trivial
    · trivial
    · trivial
    · trivial
    · trivial
    · trivial
    · trivial
    · trivial
    · trivial
    · trivial
    · trivial
    · trivial
    · trivial
    · trivial
    · trivial
    · trivial
    · trivial
    · trivial
    · trivial
    · trivial
    · trivial
    · trivial
    · trivial
    · trivial
    · trivial
    · exact g_SIGNS
    · exact g_MAX_SIDES
    · exact g_MAX_CUBES
    · exact g_MAX_TWINS
    · exact g_MAX_WORD
    · exact b_all
    · exact b_bool
    · exact b_enumerate
    · exact b_int
    · exact b_isinstance
    · exact b_len
    · exact b_range
    · exact b_set
    · exact b_sorted
    · exact b_str
    · exact b_tuple
    · exact b_zip
  have T := tops_of (p := prog) (G := G) (ts := txs) (cs := cls) X N rfl hd hc hs (by decide) rfl sp tk gv_ok hG
  have D := defs_of (p := prog) (G := G) (ts := txs) (cs := cls) X N hd rfl ck_all
  obtain ⟨t, fd, et, F, b, c⟩ := D 23 d_law rfl
  cases et
  refine ⟨bkOf mg (txs.map (·.name)) cls, t_law, fd, T, fun f df e => ?_, F, b, c, rfl, by decide +kernel, ?_⟩
  · obtain ⟨t, fd, _, r⟩ := D f df e
    exact ⟨t, fd, r⟩
  · exact adr_of hfa
end K01
open PySem PySem.W PyProof.Rows
set_option maxHeartbeats 0 in
theorem PySem.Challenge.cw_lettercubes_k01_boxes_holds : PySem.Challenge.rw_lettercubes_k01_boxes.Holds := by
  w_on; o_law; k_head; (case hw => w_witness2)
  k_fill
  refine Ev.walk_ev (l := PySem.Challenge.rw_lettercubes_k01_boxes) (n := 63) (k := 15) (p := K01.prog) (G := K01.G) (df := K01.d_law) (x := "script") (f := 23) rfl (by decide) rfl ⟨rfl, by decide, by decide⟩ (fun w h Y => PySem.W.kIn_of Y) ?F K01.main
  case F =>
    intro w mg fa h KX N hmg
    refine' K01.all_mk KX N hmg ?q_is_int ?q_is_sign ?q_is_string ?q_rises ?q_is_cube ?q_are_twins ?q_is_box ?q_is_word ?q_check_box ?q_twin_of ?q_does_show ?q_signs_of ?q_find_cubes ?q_cubes_with ?q_shown_signs ?q_all_signs ?q__law_drawn ?q__law_box ?q__law_word ?q__law_does ?q__law_badbox ?q__law_badword ?q__law_error ?q_law ?k0 ?k1 ?k2 ?k3 ?s0_0 ?s0_1 ?s0_2 ?s0_3 ?s1_0 ?s1_1 ?s1_2 ?s1_3 ?s2_0 ?s2_1 ?s2_2 ?s2_3 ?s3_0 ?s3_1 ?s3_2 ?s3_3 ?g_SIGNS ?g_MAX_SIDES ?g_MAX_CUBES ?g_MAX_TWINS ?g_MAX_WORD ?b_all ?b_bool ?b_enumerate ?b_int ?b_isinstance ?b_len ?b_range ?b_set ?b_sorted ?b_str ?b_tuple ?b_zip ?sp ?tk
    (case q_is_int => (refine' Ev.defk ?a ?l ?c ?k (fun _ _ _ _ _ _ us hl => match us, hl with | [_, _, _], _ => rfl); (case a => k_is); (case l => k_is); (case c => k_is); (case k => k_is)))
    (case q_is_sign => (refine' Ev.defk ?a ?l ?c ?k (fun _ _ _ _ _ _ us hl => match us, hl with | [_], _ => rfl); (case a => k_is); (case l => k_is); (case c => k_is); (case k => k_is)))
    (case q_is_string => (refine' Ev.defk ?a ?l ?c ?k (fun _ _ _ _ _ _ us hl => match us, hl with | [_, _, _], _ => rfl); (case a => k_is); (case l => k_is); (case c => k_is); (case k => k_is)))
    (case q_rises => (refine' Ev.defk ?a ?l ?c ?k (fun _ _ _ _ _ _ us hl => match us, hl with | [_], _ => rfl); (case a => k_is); (case l => k_is); (case c => k_is); (case k => k_is)))
    (case q_is_cube => (refine' Ev.defk ?a ?l ?c ?k (fun _ _ _ _ _ _ us hl => match us, hl with | [_], _ => rfl); (case a => k_is); (case l => k_is); (case c => k_is); (case k => k_is)))
    (case q_are_twins => (refine' Ev.defk ?a ?l ?c ?k (fun _ _ _ _ _ _ us hl => match us, hl with | [_], _ => rfl); (case a => k_is); (case l => k_is); (case c => k_is); (case k => k_is)))
    (case q_is_box => (refine' Ev.defk ?a ?l ?c ?k (fun _ _ _ _ _ _ us hl => match us, hl with | [_], _ => rfl); (case a => k_is); (case l => k_is); (case c => k_is); (case k => k_is)))
    (case q_is_word => (refine' Ev.defk ?a ?l ?c ?k (fun _ _ _ _ _ _ us hl => match us, hl with | [_], _ => rfl); (case a => k_is); (case l => k_is); (case c => k_is); (case k => k_is)))
    (case q_check_box => (refine' Ev.defk ?a ?l ?c ?k (fun _ _ _ _ _ _ us hl => match us, hl with | [_], _ => rfl); (case a => k_is); (case l => k_is); (case c => k_is); (case k => k_is)))
    (case q_twin_of => (refine' Ev.defk ?a ?l ?c ?k (fun _ _ _ _ _ _ us hl => match us, hl with | [_, _], _ => rfl); (case a => k_is); (case l => k_is); (case c => k_is); (case k => k_is)))
    (case q_does_show => (refine' Ev.defk ?a ?l ?c ?k (fun _ _ _ _ _ _ us hl => match us, hl with | [_, _, _], _ => rfl); (case a => k_is); (case l => k_is); (case c => k_is); (case k => k_is)))
    (case q_signs_of => (refine' Ev.defk ?a ?l ?c ?k (fun _ _ _ _ _ _ us hl => match us, hl with | [_, _], _ => rfl); (case a => k_is); (case l => k_is); (case c => k_is); (case k => k_is)))
    (case q_find_cubes => (refine' Ev.defk ?a ?l ?c ?k (fun _ _ _ _ _ _ us hl => match us, hl with | [_, _], _ => rfl); (case a => k_is); (case l => k_is); (case c => k_is); (case k => k_is)))
    (case q_cubes_with => (refine' Ev.defk ?a ?l ?c ?k (fun _ _ _ _ _ _ us hl => match us, hl with | [_, _], _ => rfl); (case a => k_is); (case l => k_is); (case c => k_is); (case k => k_is)))
    (case q_shown_signs => (refine' Ev.defk ?a ?l ?c ?k (fun _ _ _ _ _ _ us hl => match us, hl with | [_], _ => rfl); (case a => k_is); (case l => k_is); (case c => k_is); (case k => k_is)))
    (case q_all_signs => (refine' Ev.defk ?a ?l ?c ?k (fun _ _ _ _ _ _ us hl => match us, hl with | [_], _ => rfl); (case a => k_is); (case l => k_is); (case c => k_is); (case k => k_is)))
    (case q__law_drawn => (refine' Ev.defk ?a ?l ?c ?k (fun _ _ _ _ _ _ us hl => match us, hl with | [_, _, _], _ => rfl); (case a => k_is); (case l => k_is); (case c => k_is); (case k => k_is)))
    (case q__law_box => (refine' Ev.defk ?a ?l ?c ?k (fun _ _ _ _ _ _ us hl => match us, hl with | [_, _, _], _ => rfl); (case a => k_is); (case l => k_is); (case c => k_is); (case k => k_is)))
    (case q__law_word => (refine' Ev.defk ?a ?l ?c ?k (fun _ _ _ _ _ _ us hl => match us, hl with | [_, _, _], _ => rfl); (case a => k_is); (case l => k_is); (case c => k_is); (case k => k_is)))
    (case q__law_does => (refine' Ev.defk ?a ?l ?c ?k (fun _ _ _ _ _ _ us hl => match us, hl with | [_, _, _], _ => rfl); (case a => k_is); (case l => k_is); (case c => k_is); (case k => k_is)))
    (case q__law_badbox => (refine' Ev.defk ?a ?l ?c ?k (fun _ _ _ _ _ _ us hl => match us, hl with | [_, _], _ => rfl); (case a => k_is); (case l => k_is); (case c => k_is); (case k => k_is)))
    (case q__law_badword => (refine' Ev.defk ?a ?l ?c ?k (fun _ _ _ _ _ _ us hl => match us, hl with | [_, _], _ => rfl); (case a => k_is); (case l => k_is); (case c => k_is); (case k => k_is)))
    (case q__law_error => (refine' Ev.defk ?a ?l ?c ?k (fun _ _ _ _ _ _ us hl => match us, hl with | [_, _, _], _ => rfl); (case a => k_is); (case l => k_is); (case c => k_is); (case k => k_is)))
    (case q_law => (refine' Ev.defk ?a ?l ?c ?k (fun _ _ _ _ _ _ us hl => match us, hl with | [_], _ => rfl); (case a => k_is); (case l => k_is); (case c => k_is); (case k => k_is)))
    (case k0 => (refine' ⟨?a, ?b, ?c, ?d, ?e, ?f, ?g, ?h, ?i, ?j, ?k⟩; (case a => k_is); (case b => k_is); (case c => k_is); (case d => k_is); (case e => k_is); (case f => k_is); (case g => k_is); (case h => k_exc); (case i => k_is); (case j => k_is); (case k => k_is)))
    (case k1 => (refine' ⟨?a, ?b, ?c, ?d, ?e, ?f, ?g, ?h, ?i, ?j, ?k⟩; (case a => k_is); (case b => k_is); (case c => k_is); (case d => k_is); (case e => k_is); (case f => k_is); (case g => k_is); (case h => k_exc); (case i => k_is); (case j => k_is); (case k => k_is)))
    (case k2 => (refine' ⟨?a, ?b, ?c, ?d, ?e, ?f, ?g, ?h, ?i, ?j, ?k⟩; (case a => k_is); (case b => k_is); (case c => k_is); (case d => k_is); (case e => k_is); (case f => k_is); (case g => k_is); (case h => k_exc); (case i => k_is); (case j => k_is); (case k => k_is)))
    (case k3 => (refine' ⟨?a, ?b, ?c, ?d, ?e, ?f, ?g, ?h, ?i, ?j, ?k⟩; (case a => k_is); (case b => k_is); (case c => k_is); (case d => k_is); (case e => k_is); (case f => k_is); (case g => k_is); (case h => k_exc); (case i => k_is); (case j => k_is); (case k => k_is)))
    (case s0_0 => first | rfl | k_is)
    (case s0_1 => first | rfl | k_is)
    (case s0_2 => first | rfl | k_is)
    (case s0_3 => first | rfl | k_is)
    (case s1_0 => first | rfl | k_is)
    (case s1_1 => first | rfl | k_is)
    (case s1_2 => first | rfl | k_is)
    (case s1_3 => first | rfl | k_is)
    (case s2_0 => first | rfl | k_is)
    (case s2_1 => first | rfl | k_is)
    (case s2_2 => first | rfl | k_is)
    (case s2_3 => first | rfl | k_is)
    (case s3_0 => first | rfl | k_is)
    (case s3_1 => first | rfl | k_is)
    (case s3_2 => first | rfl | k_is)
    (case s3_3 => first | rfl | k_is)
    (case g_SIGNS => (refine' Ev.gstr ?a; (case a => k_is)))
    (case g_MAX_SIDES => (refine' Ev.gint ?a; (case a => k_is)))
    (case g_MAX_CUBES => (refine' Ev.gint ?a; (case a => k_is)))
    (case g_MAX_TWINS => (refine' Ev.gint ?a; (case a => k_is)))
    (case g_MAX_WORD => (refine' Ev.gint ?a; (case a => k_is)))
    (case b_all => k_is)
    (case b_bool => k_is)
    (case b_enumerate => k_is)
    (case b_int => k_is)
    (case b_isinstance => k_is)
    (case b_len => k_is)
    (case b_range => k_is)
    (case b_set => k_is)
    (case b_sorted => k_is)
    (case b_str => k_is)
    (case b_tuple => k_is)
    (case b_zip => k_is)
    (case sp => k_is); (case tk => k_is)

