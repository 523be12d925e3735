import PyProof.Rows.All
import Wide.All
import OpenK.AllK
import Wide.FinOn
import HandS.ForMost
import HandS.Deep
import HandS.Style
import HandS.SetFor
import HandS.Zip
import HandS.Wide
import HandS.IsInst
import KE.KStrBytes
import HandS.Walk
import HandS.More
import HandS.Head0
import HandS.Head1
import HandS.Head2
import HandS.HeadEnd
import HandS.HeadHook1
import HandS.HeadHook2
import PyProof.IsRules
import HandS.Dict
import HandS.Codes
import PySem.Challenge.RW_besidesay_k40_nearness_said
set_option Elab.async false
set_option linter.all false
set_option maxRecDepth 100000
/-! The evaluator: own data, own syntax, value semantics with an ownership flag. -/
namespace BS
open PySem L2

/-- who may change a value's containers: nobody any more; the outer one alone is our own; all are our own -/
inductive Ow where
  | sh | top | deep
  deriving DecidableEq

inductive D where
  | non
  | bl (b : Bool)
  | int (i : Int)
  | str (s : Str)
  | fn (g : Nat)
  | scr (ns : List Int)
  | tup (xs : List D)
  | lst (xs : List D)
  | dic (t : Bool) (kvs : List (D × D))

abbrev Val := D × Ow
abbrev Sl := L2.St
abbrev En := List (Option Val)

mutual
@[simp] def plain : D → Bool
  | .non => true
  | .bl _ => true
  | .int _ => true
  | .str _ => true
  | .fn _ => true
  | .scr _ => true
  | .tup xs => plains xs
  | .lst _ => false
  | .dic _ _ => false
@[simp] def plains : List D → Bool
  | [] => true
  | d :: ds => plain d && plains ds
end
def vals : List (D × D) → List D
  | [] => []
  | (_, v) :: r => v :: vals r
/-- no container stands within but the outer one -/
def kplain : D → Bool
  | .tup xs => plains xs
  | .lst xs => plains xs
  | .dic _ kvs => plains (vals kvs)
  | _ => true
@[simp] theorem kplain_tup (xs : List D) : kplain (.tup xs) = plains xs := rfl
@[simp] theorem kplain_lst (xs : List D) : kplain (.lst xs) = plains xs := rfl
@[simp] theorem kplain_dic (t : Bool) (kvs : List (D × D)) : kplain (.dic t kvs) = plains (vals kvs) := rfl
@[simp] theorem kplain_str (s : Str) : kplain (.str s) = true := rfl
@[simp] theorem kplain_int (s : Int) : kplain (.int s) = true := rfl
@[simp] theorem kplain_scr (s : List Int) : kplain (.scr s) = true := rfl
@[simp] def kid : Ow → Ow
  | .deep => .deep
  | _ => .sh
/-- a value with its flag -/
def vl (d : D) (w : Ow) : Val := if plain d then (d, .deep) else (d, w)
/- keys -/
mutual
def keq : D → D → Bool
  | .int i, .int j => decide (i = j)
  | .str s, .str t => decide (s = t)
  | .tup xs, .tup ys => keqs xs ys
  | _, _ => false
def keqs : List D → List D → Bool
  | [], [] => true
  | x :: xs, y :: ys => keq x y && keqs xs ys
  | _, _ => false
end
def dget (kvs : List (D × D)) (k : D) : Option D :=
  match kvs with
  | [] => none
  | (a, v) :: r => if keq a k then some v else dget r k
def dhas (kvs : List (D × D)) (k : D) : Bool := kvs.any fun p => keq p.1 k
def dput (kvs : List (D × D)) (k v : D) : List (D × D) :=
  if dhas kvs k then kvs.map (fun p => if keq p.1 k then (p.1, v) else p) else kvs ++ [(k, v)]
def keyD : D → Option Key
  | .int i => some (.inl i)
  | .str s => some (.inr s)
  | _ => none
def keyL : List D → Option (List Key)
  | [] => some []
  | d :: r => match keyD d, keyL r with
    | some k, some ks => some (k :: ks)
    | _, _ => none
def keyT : D → Option (List Key)
  | .tup ds => keyL ds
  | _ => none
def keyOk (t : Bool) (k : D) : Bool := if t then (keyT k).isSome else (keyD k).isSome
def item : D → D → Option D
  | .lst xs, .int i => atI xs i
  | .tup xs, .int i => atI xs i
  | .scr ns, .int i => (atI ns i).map .int
  | .str s, .int i => (atI s.cps.toList i).map fun c => .str ⟨#[c]⟩
  | .dic t kvs, k => if keyOk t k then dget kvs k else none
  | _, _ => none

/- Python's == -/
mutual
def deq : D → D → Bool
  | .non, .non => true
  | .bl a, .bl b => a == b
  | .int a, .int b => a == b
  | .bl a, .int b => (if a then 1 else 0) == b
  | .int a, .bl b => a == (if b then 1 else 0)
  | .str a, .str b => decide (a = b)
  | .lst xs, .lst ys => deqs xs ys
  | .tup xs, .tup ys => deqs xs ys
  | _, _ => false
def deqs : List D → List D → Bool
  | [], [] => true
  | x :: xs, y :: ys => deq x y && deqs xs ys
  | _, _ => false
end
/- what == is told of here: nothing but these, to the depth n -/
mutual
def shp : Nat → D → Bool
  | _, .non => true
  | _, .bl _ => true
  | _, .int _ => true
  | _, .str _ => true
  | n + 1, .lst xs => shps n xs
  | n + 1, .tup xs => shps n xs
  | _, _ => false
def shps : Nat → List D → Bool
  | _, [] => true
  | n, d :: ds => shp n d && shps n ds
end
@[simp] def scalar : D → Bool
  | .non => true
  | .bl _ => true
  | .int _ => true
  | .str _ => true
  | _ => false
def scalars : List D → Bool
  | [] => true
  | d :: ds => scalar d && scalars ds

inductive Ty where
  | int | str | bool | list | tuple | dict
  deriving DecidableEq
inductive Op1 where
  | not | neg | len | int | str | abs | isN | isNN | sum | isi (t : Ty) | max | min | tru | isB (b : Bool)
inductive Op2 where
  | add | sub | mul | fdiv | mod | pow | shl | shr | band | bor | eq | ne | lt | le | gt | ge | In | NotIn | max | min | join | get | index | count
/-- what makes a new object of what stands in another one -/
inductive OpP where
  | list | tuple | dict | sorted | rev
inductive Ik where
  | of | keys | rng | enu | zip | rev
inductive Mt where
  | append | pop | pop1 | insert | extend

inductive Tg where
  | v (i : Nat)
  | t (ts : List Nat)

inductive Ex where
  | int (i : Int)
  | str (s : Str)
  | bl (b : Bool)
  | non
  | glo (d : D)
  | var (i : Nat)
  | io (i : Nat)
  | ix (a k : Ex)
  | sl (a lo hi : Ex)
  | op1 (o : Op1) (a : Ex)
  | op2 (o : Op2) (a b : Ex)
  | opP (o : OpP) (a : Ex)
  | cat (a b : Ex)
  | rep (a b : Ex)
  | and (a b : Ex)
  | or (a b : Ex)
  | ife (c a b : Ex)
  | tup (es : List Ex)
  | lst (es : List Ex)
  | dct0 (t : Bool)
  | dct (es : List Ex)
  | inG (neg : Bool) (e : Ex) (xs : List Str)
  | call (g : Nat) (es : List Ex)
  | callv (f : Ex) (es : List Ex)
  | mut (m : Mt) (i : Nat) (es : List Ex)
  | mutP (m : Mt) (p : Ex) (es : List Ex)
  | comp (shr : Bool) (elt : Ex) (tg : Tg) (k : Ik) (es : List Ex) (cond : Ex)

inductive Ss where
  | skip
  | seq (a b : Ss)
  | set (tg : Tg) (e : Ex)
  | setIx (i : Nat) (k e : Ex)
  | setP (p k e : Ex)
  | expr (e : Ex)
  | ite (c : Ex) (a b : Ss)
  | for_ (tg : Tg) (k : Ik) (es : List Ex) (body : Ss)
  | whl (c : Ex) (body : Ss)
  | ret (e : Ex)
  | retn

@[simp] def isPl : Ex → Bool
  | .var _ => true
  | .ix a _ => isPl a
  | _ => false
@[simp] def root : Ex → Nat
  | .var i => i
  | .ix a _ => root a
  | _ => 0
/- slots whose objects or flags an expression may change -/
mutual
@[simp] def wr : Ex → List Nat
  | .io i => [i]
  | .ix a k => wr a ++ wr k
  | .sl a b c => (if isPl a then [root a] else []) ++ (wr a ++ (wr b ++ wr c))
  | .op1 _ a => wr a
  | .op2 _ a b => wr a ++ wr b
  | .opP _ a => (if isPl a then [root a] else []) ++ wr a
  | .cat a b => ((if isPl a then [root a] else []) ++ wr a) ++ ((if isPl b then [root b] else []) ++ wr b)
  | .rep a b => wr a ++ wr b
  | .and a b => wr a ++ wr b
  | .or a b => wr a ++ wr b
  | .ife c a b => wr c ++ (((if isPl a then [root a] else []) ++ wr a) ++ ((if isPl b then [root b] else []) ++ wr b))
  | .tup es => wrs es
  | .lst es => wrs es
  | .dct es => wrs es
  | .inG _ e _ => wr e
  | .call _ es => wrs es
  | .callv f es => wr f ++ wrs es
  | .mut _ i es => i :: wrs es
  | .mutP _ p es => root p :: (wr p ++ wrs es)
  | .comp _ elt tg _ es cond => (match tg with | .v i => [i] | .t is => is) ++ (((if isPl elt then [root elt] else []) ++ wr elt) ++ (wrs es ++ wr cond))
  | _ => []
@[simp] def wrs : List Ex → List Nat
  | [] => []
  | e :: es => ((if isPl e then [root e] else []) ++ wr e) ++ wrs es
end
/-- .. with its value going elsewhere -/
@[simp] def wrx (e : Ex) : List Nat := (if isPl e then [root e] else []) ++ wr e
@[simp] def tgs : Tg → List Nat
  | .v i => [i]
  | .t ts => ts
@[simp] def wrS : Ss → List Nat
  | .skip => []
  | .seq a b => wrS a ++ wrS b
  | .set tg e => tgs tg ++ wrx e
  | .setIx i k e => i :: (wr k ++ wrx e)
  | .setP p k e => root p :: (wr p ++ (wr k ++ wrx e))
  | .expr e => wr e
  | .ite c a b => wr c ++ (wrS a ++ wrS b)
  | .for_ tg _ es body => tgs tg ++ (wrs es ++ wrS body)
  | .whl c body => wr c ++ wrS body
  | .ret e => wrx e
  | .retn => []
/-- slots that a statement stores -/
@[simp] def asg : Ss → List Nat
  | .seq a b => asg a ++ asg b
  | .set tg _ => tgs tg
  | .ite _ a b => asg a ++ asg b
  | .for_ tg _ _ body => tgs tg ++ asg body
  | .whl _ body => asg body
  | _ => []

/-- a root's flag when a part of it goes elsewhere -/
@[simp] def down : D → Ow → Ow
  | .lst _, .deep => .top
  | .dic _ _, .deep => .top
  | .lst _, .top => .top
  | .dic _ _, .top => .top
  | _, _ => .sh
def shRoot : Ex → En → En
  | .var i, E => match E[i]? with
    | some (some (d, _)) => E.set i (some (d, .sh))
    | _ => E
  | .ix a _, E => match E[root a]? with
    | some (some (d, w)) => E.set (root a) (some (d, down d w))
    | _ => E
  | _, E => E
/-- a place's value goes elsewhere -/
def esc (e : Ex) (x : Val) (E : En) : Val × En :=
  if isPl e && !plain x.1 then ((x.1, .sh), shRoot e E) else (x, E)
/-- a place's value is held while other things are reckoned that change w -/
def brw (e : Ex) (w : List Nat) (x : Val) : Bool := !isPl e || plain x.1 || !w.contains (root e)
/-- parts of a place's value go elsewhere -/
def kesc (e : Ex) (x : Val) (E : En) : Val × En :=
  if isPl e && !kplain x.1 then ((x.1, .sh), shRoot e E) else (x, E)

abbrev line : Nat := 16777216

def allDeep : List Val → Bool
  | [] => true
  | x :: xs => (plain x.1 || decide (x.2 = .deep)) && allDeep xs
def ds : List Val → List D
  | [] => []
  | x :: xs => x.1 :: ds xs
def mkTup (xs : List Val) : Val := vl (.tup (ds xs)) (if allDeep xs then .deep else .sh)
def mkLst (xs : List Val) : Val := (.lst (ds xs), if allDeep xs then .deep else .top)
/-- a new list of parts of another value -/
def newLst (xs : List D) (w : Ow) : Val := (.lst xs, if plains xs then .deep else if w = .deep then .deep else .top)

/-- keys and values by turns -/
def pairUp : List D → Option (List (D × D))
  | [] => some []
  | k :: v :: r => (pairUp r).map ((k, v) :: ·)
  | _ => none
def keysOk (kvs : List (D × D)) : Bool := match keyL (kvs.map (·.1)) with
  | some ks => decide ks.Nodup && decide (kvs.length ≤ 15)
  | none => false
def lenD : D → Option Int
  | .str s => some s.length
  | .lst xs => some xs.length
  | .tup xs => some xs.length
  | .scr xs => some xs.length
  | .dic false kvs => some kvs.length
  | _ => none
def sumD : List D → Option Int
  | [] => some 0
  | .int i :: r => (sumD r).map (i + ·)
  | _ :: _ => none
def intsOf : List D → Option (List Int)
  | [] => some []
  | .int i :: r => (intsOf r).map (i :: ·)
  | _ :: _ => none
def strsOf : List D → Option (List Str)
  | [] => some []
  | .str i :: r => (strsOf r).map (i :: ·)
  | _ :: _ => none
def tyOf : Ty → D → Bool
  | .int, .int _ => true
  | .int, .bl _ => true
  | .bool, .bl _ => true
  | .str, .str _ => true
  | .list, .lst _ => true
  | .tuple, .tup _ => true
  | .dict, .dic _ _ => true
  | _, _ => false
def isNon : D → Bool
  | .non => true
  | _ => false
def app1 : Op1 → D → Option D
  | .not, .bl b => some (.bl (!b))
  | .neg, .int i => some (.int (-i))
  | .len, d => (lenD d).map .int
  | .int, .int i => some (.int i)
  | .int, .bl b => some (.int (if b then 1 else 0))
  | .int, .str s => if s.length ≤ 640 then (PySem.intText? s).map .int else none
  | .max, .lst xs => match intsOf xs with
    | some (n :: ns) => some (.int (ns.foldl max n))
    | _ => none
  | .min, .lst xs => match intsOf xs with
    | some (n :: ns) => some (.int (ns.foldl min n))
    | _ => none
  | .str, .int i => if i.natAbs.log2 < 1920 then some (.str (toString i)) else none
  | .abs, .int i => some (.int (if i < 0 then -i else i))
  | .isN, d => some (.bl (isNon d))
  | .isNN, d => some (.bl (!isNon d))
  | .isi t, .fn _ => none
  | .isi t, .dic true _ => none
  | .isi t, .scr _ => none
  | .isi t, d => some (.bl (tyOf t d))
  | .isB b, .bl c => some (.bl (c == b))
  | .isB _, .non => some (.bl false)
  | .isB _, .int _ => some (.bl false)
  | .isB _, .str _ => some (.bl false)
  | .isB _, .lst _ => some (.bl false)
  | .isB _, .tup _ => some (.bl false)
  | .isB _, .dic _ _ => some (.bl false)
  | .sum, .lst xs => (sumD xs).map .int
  | .tru, .bl b => some (.bl b)
  | .tru, .int i => some (.bl (i != 0))
  | .tru, .non => some (.bl false)
  | .tru, .lst xs => some (.bl (!xs.isEmpty))
  | .tru, .tup xs => some (.bl (!xs.isEmpty))
  | _, _ => none
def srep (s : Str) (k : Int) : Str := if k < 1 then Str.empty else if (k == 1 || s.length == 0) = true then s else ⟨(List.replicate k.toNat s.cps).foldl (· ++ ·) #[]⟩
def app2 : Op2 → D → D → Option D
  | .add, .int i, .int j => some (.int (i + j))
  | .add, .str i, .str j => if i.length + j.length ≤ line then some (.str (i ++ j)) else none
  | .sub, .int i, .int j => some (.int (i - j))
  | .mul, .int i, .int j => if (-(2 ^ 64) < i ∧ i < 2 ^ 64) ∨ (-(2 ^ 64) < j ∧ j < 2 ^ 64) then some (.int (i * j)) else none
  | .mul, .str s, .int k => if 0 ≤ k ∧ k < 2 ^ 62 ∧ s.length * k.toNat ≤ line then some (.str (srep s k)) else none
  | .fdiv, .int i, .int j => if 0 < j ∧ j < 1073741824 then some (.int (i / j)) else none
  | .mod, .int i, .int j => if 0 < j then some (.int (i % j)) else none
  | .pow, .int i, .int j => if 0 ≤ j ∧ j ≤ 1000000 ∧ i.natAbs < 2 ^ 64 then some (.int (i ^ j.toNat)) else none
  | .eq, a, b => if shp 30 a && shp 30 b then some (.bl (deq a b)) else none
  | .ne, a, b => if shp 30 a && shp 30 b then some (.bl (!deq a b)) else none
  | .lt, .int i, .int j => some (.bl (decide (i < j)))
  | .le, .int i, .int j => some (.bl (decide (i ≤ j)))
  | .gt, .int i, .int j => some (.bl (decide (j < i)))
  | .ge, .int i, .int j => some (.bl (decide (j ≤ i)))
  | .In, a, .lst xs => if scalar a && scalars xs || shp 30 a && shps 29 xs then some (.bl (xs.any fun y => deq y a)) else none
  | .In, a, .tup xs => if scalar a && scalars xs then some (.bl (xs.any fun y => deq y a)) else none
  | .In, .str s, .str z => match s.cps.toList with
    | [c] => some (.bl (decide (c ∈ z.cps.toList)))
    | _ => none
  | .In, a, .dic t kvs => if keyOk t a then some (.bl (dhas kvs a)) else none
  | .NotIn, a, .lst xs => if scalar a && scalars xs || shp 30 a && shps 29 xs then some (.bl (!xs.any fun y => deq y a)) else none
  | .NotIn, a, .tup xs => if scalar a && scalars xs then some (.bl (!xs.any fun y => deq y a)) else none
  | .NotIn, .str s, .str z => match s.cps.toList with
    | [c] => some (.bl (!decide (c ∈ z.cps.toList)))
    | _ => none
  | .NotIn, a, .dic t kvs => if keyOk t a then some (.bl (!dhas kvs a)) else none
  | .join, .str a, .lst xs => match strsOf xs with
    | some ys => if (ys.map (·.length)).sum + ys.length * a.length ≤ line then some (.str (Txt.join a ys)) else none
    | none => none
  | .count, .lst xs, .int i => (intsOf xs).map fun l => .int (l.count i : Nat)
  | .max, .int i, .int j => some (.int (if j > i then j else i))
  | .min, .int i, .int j => some (.int (if j < i then j else i))
  | _, _, _ => none

abbrev Phi := Nat → List Val → Option (Val × List (Option Val))

inductive Out where
  | nx (E : En)
  | rt (x : Val) (E : En)

/-- arguments: a value, or a slot whose object is handed over and back -/
abbrev Ar := Val ⊕ Nat
/-- the handed slots' values, taken out -/
def gat : List Ar → En → Option (List Val × En)
  | [], E => some ([], E)
  | .inl x :: r, E => do
    let (xs, E1) ← gat r E
    some (x :: xs, E1)
  | .inr i :: r, E => match E[i]? with
    | some (some x) => do
      let (xs, E1) ← gat r (E.set i none)
      some (x :: xs, E1)
    | _ => none
/-- .. and put back -/
def scat : List Ar → List (Option Val) → En → En
  | .inr i :: r, o :: os, E => scat r os (E.set i o)
  | .inl _ :: r, _ :: os, E => scat r os E
  | _, _, E => E
def callG (Φ : Phi) (g : Nat) (as : List Ar) (E : En) : Option (Val × En) := do
  let (vs, E1) ← gat as E
  let (r, os) ← Φ g vs
  some (r, scat as os E1)

/-- a value's parts go to the target's slots -/
def binds : List Nat → List D → Ow → En → Option En
  | [], [], _, E => some E
  | i :: is, d :: ds, w, E => binds is ds w (E.set i (some (vl d w)))
  | _, _, _, _ => none
def bindT : Tg → Val → En → Option En
  | .v i, x, E => some (E.set i (some x))
  | .t is, (.tup ds, w), E => if is.length = ds.length then binds is ds (kid w) E else none
  | .t _, _, _ => none

def shv (d : D) : Val := vl d .sh
def chars (s : Str) : List D := s.cps.toList.map fun c => .str ⟨#[c]⟩
def enum0 : Nat → List D → List D
  | _, [] => []
  | n, x :: xs => .tup [.int n, x] :: enum0 (n + 1) xs
def zip0 : List D → List D → List D
  | x :: xs, y :: ys => .tup [x, y] :: zip0 xs ys
  | _, _ => []
def rng (lo : Int) (c : Int) : Nat → Nat → List D
  | _, 0 => []
  | i, n + 1 => .int (lo + (i : Int) * c) :: rng lo c (i + 1) n
def inB (i : Int) : Bool := decide (-(2 ^ 62) ≤ i) && decide (i < 2 ^ 62)
def isIntD : D → Bool
  | .int _ => true
  | _ => false
def intKeys : List (D × D) → Bool
  | [] => true
  | (k, _) :: r => isIntD k && intKeys r
/-- the items that are walked -/
def items : Ik → List D → Option (List D)
  | .of, [.lst xs] => some xs
  | .of, [.tup xs] => some xs
  | .of, [.str s] => some (chars s)
  | .keys, [.dic false kvs] => if intKeys kvs then some (kvs.map (·.1)) else none
  | .keys, [.lst xs] => some xs
  | .keys, [.tup xs] => some xs
  | .keys, [.str s] => some (chars s)
  | .rng, [.int n] => if inB n then some (rng 0 1 0 n.toNat) else none
  | .rng, [.int lo, .int hi] => if inB lo && inB hi then some (rng lo 1 0 (hi - lo).toNat) else none
  | .rng, [.int lo, .int hi, .int c] => if inB lo && inB hi && decide (0 < c) && decide (c < 1073741824) then some (rng lo c 0 ((hi - lo + c - 1) / c).toNat) else none
  | .enu, [.lst xs] => some (enum0 0 xs)
  | .zip, [.lst xs, .lst ys] => some (zip0 xs ys)
  | .rev, [.lst xs] => some xs.reverse
  | _, _ => none

def forL (f : Val → En → Option Out) : List D → En → Option Out
  | [], E => some (.nx E)
  | d :: ds, E => match f (shv d) E with
    | some (.nx E1) => forL f ds E1
    | o => o
def whileL (c : En → Option (Bool × En)) (f : En → Option Out) : Nat → En → Option Out
  | 0, _ => none
  | n + 1, E => match c E with
    | some (true, E1) => (match f E1 with
      | some (.nx E2) => whileL c f n E2
      | o => o)
    | some (false, E1) => some (.nx E1)
    | none => none
/-- a comprehension's items: the new list so far, from the left -/
def compL (f : Val → En → Option (Option Val × En)) : List D → En → List D → Option (List D × En)
  | [], E, acc => some (acc, E)
  | d :: ds, E, acc => match f (shv d) E with
    | some (some x, E1) => compL f ds E1 (acc ++ [x.1])
    | some (none, E1) => compL f ds E1 acc
    | none => none
def wipes : List Nat → En → En
  | [], E => E
  | i :: is, E => (wipes is E).set i none
/-- the slots of a block's own names as they were -/
def back : List Nat → En → En → En
  | [], _, E => E
  | i :: is, E0, E => (back is E0 E).set i (E0.getD i none)
def keepable (is : List Nat) (E : En) : Bool := is.all fun i => match E[i]? with
  | some (some (d, w)) => plain d || decide (w = .sh)
  | some none => true
  | none => false

/-- a store at a path -/
def storeI (xs : List D) (i : Int) (v : D) : Option (List D) := (ixN xs.length i).map fun j => xs.set j v
/-- the part at a path, changed -/
def updP (f : D → Option (D × D)) : List D → D → Option (D × D)
  | [], d => f d
  | k :: ks, .lst xs => match k with
    | .int i => do
      let j ← ixN xs.length i
      let x ← xs[j]?
      let (x', r) ← updP f ks x
      some (.lst (xs.set j x'), r)
    | _ => none
  | k :: ks, .tup xs => match k with
    | .int i => do
      let j ← ixN xs.length i
      let x ← xs[j]?
      let (x', r) ← updP f ks x
      some (.tup (xs.set j x'), r)
    | _ => none
  | k :: ks, .dic t kvs => do
    let x ← dget kvs k
    let (x', r) ← updP f ks x
    some (.dic t (dput kvs k x'), r)
  | _ :: _, _ => none
/-- what the methods that change do: the new content, the answer -/
def mutD : Mt → List D → D → Option (D × D)
  | .append, [x], .lst xs => if xs.length < line then some (.lst (xs ++ [x]), .non) else none
  | .pop, [], .lst xs => match xs.getLast? with
    | some x => some (.lst xs.dropLast, x)
    | none => none
  | .insert, [.int i, x], .lst xs => if xs.length < line ∧ 0 ≤ i ∧ i < 2 ^ 63 then some (.lst (xs.take i.toNat ++ [x] ++ xs.drop i.toNat), .non) else none
  | .extend, [.lst ys], .lst xs => if xs.length + ys.length ≤ line then some (.lst (xs ++ ys), .non) else none
  | _, _, _ => none
def setD (k v : D) : D → Option (D × D)
  | .lst xs => match k with
    | .int i => (storeI xs i v).map fun ys => (.lst ys, .non)
    | _ => none
  | .dic t kvs => if kvs.length < line ∧ keyOk t k = true then some (.dic t (dput kvs k v), .non) else none
  | _ => none
def isDicD : D → Bool
  | .dic _ _ => true
  | _ => false
/-- a change at a path of slot i. All new parts are plain or our own, or the path is the slot itself -/
def chg (i : Nat) (ks : List D) (own : Bool) (f : D → Option (D × D)) (E : En) : Option (Val × En) :=
  match E[i]? with
  | some (some (d, w)) =>
    if w = .sh then none
    else if ks.isEmpty then do
      let (d', r) ← f d
      some (vl r (kid w), E.set i (some (d', if own then w else .top)))
    else if w = .deep ∧ own then do
      let (d', r) ← updP f ks d
      some (vl r .deep, E.set i (some (d', .deep)))
    else none
  | _ => none

def sliceI : Ex → D → Option (Option Int)
  | .non, _ => some none
  | _, .int i => some (some i)
  | _, _ => none
def slD (lo hi : Option Int) : D → Ow → Option Val
  | .str s, _ => some (.str (cutS s lo hi), .deep)
  | .lst xs, w => some (newLst ((xs.drop (HT.sIx xs.length 0 lo)).take (HT.sIx xs.length xs.length hi - HT.sIx xs.length 0 lo)) w)
  | .tup xs, w => if HT.sIx xs.length 0 lo = 0 ∧ HT.sIx xs.length xs.length hi = xs.length then none else some (vl (.tup ((xs.drop (HT.sIx xs.length 0 lo)).take (HT.sIx xs.length xs.length hi - HT.sIx xs.length 0 lo))) w)
  | _, _ => none

section
variable (Φ : Phi)
mutual
def ev : Ex → En → Option (Val × En)
  | .int i, E => some ((.int i, .deep), E)
  | .str s, E => some ((.str s, .deep), E)
  | .bl b, E => some ((.bl b, .deep), E)
  | .non, E => some ((.non, .deep), E)
  | .glo d, E => some ((d, .deep), E)
  | .var i, E => match E[i]? with
    | some (some x) => some (x, E)
    | _ => none
  | .io _, _ => none
  | .ix a k, E => do
    let (x, E) ← ev a E
    if brw a (wr k) x then
      let (y, E) ← ev k E
      let d ← item x.1 y.1
      some (vl d (kid x.2), E)
    else none
  | .sl a lo hi, E => do
    let (x, E) ← ev a E
    let (x, E) := kesc a x E
    if brw a (wr lo ++ wr hi) x then
      let (l, E) ← ev lo E
      let (h, E) ← ev hi E
      let l ← sliceI lo l.1
      let h ← sliceI hi h.1
      let r ← slD l h x.1 x.2
      some (r, E)
    else none
  | .op1 o a, E => do
    let (x, E) ← ev a E
    let d ← app1 o x.1
    some ((d, .deep), E)
  | .op2 o a b, E => do
    let (x, E) ← ev a E
    if brw a (wr b) x then
      let (y, E) ← ev b E
      let d ← app2 o x.1 y.1
      some ((d, .deep), E)
    else none
  | .opP o a, E => match o with
    | .list => do
      let (x, E) ← ev a E
      let (x, E) := kesc a x E
      match x with
      | (.lst xs, w) => some (newLst xs w, E)
      | (.tup xs, w) => some (newLst xs w, E)
      | _ => none
    | .rev => do
      let (x, E) ← ev a E
      let (x, E) := kesc a x E
      match x with
      | (.lst xs, w) => if plains xs = true ∨ w ≠ .deep then some (newLst xs.reverse w, E) else none
      | _ => none
    | _ => none
  | .cat a b, E => do
    let (x, E) ← ev a E
    let (x, E) := kesc a x E
    if brw a (wr b) x then
      let (y, E) ← ev b E
      let (y, E) := kesc b y E
      match x, y with
      | (.lst xs, w), (.lst ys, u) =>
        if xs.length + ys.length ≤ line ∧ ((w = .deep ∧ u = .deep) ∨ ((w ≠ .deep ∨ plains xs = true) ∧ (u ≠ .deep ∨ plains ys = true))) then
          some (newLst (xs ++ ys) (if w = .deep ∧ u = .deep then .deep else .sh), E)
        else none
      | _, _ => none
    else none
  | .rep a b, E => do
    let (x, E) ← ev a E
    let (y, E) ← ev b E
    match x.1, y.1 with
    | .lst xs, .int k => if plains xs ∧ -(2 ^ 63) ≤ k ∧ k < 2 ^ 63 ∧ xs.length * k.toNat ≤ line then some ((.lst (List.replicate k.toNat xs).flatten, .deep), E) else none
    | _, _ => none
  | .and a b, E => do
    let (x, E) ← ev a E
    match x.1 with
    | .bl true => do
      let (y, E) ← ev b E
      match y.1 with
      | .bl c => some ((.bl c, .deep), E)
      | _ => none
    | .bl false => some ((.bl false, .deep), E)
    | _ => none
  | .or a b, E => do
    let (x, E) ← ev a E
    match x.1 with
    | .bl false => do
      let (y, E) ← ev b E
      match y.1 with
      | .bl c => some ((.bl c, .deep), E)
      | _ => none
    | .bl true => some ((.bl true, .deep), E)
    | _ => none
  | .ife c a b, E => do
    let (x, E) ← ev c E
    match x.1 with
    | .bl true => do
      let (y, E) ← ev a E
      some (esc a y E)
    | .bl false => do
      let (y, E) ← ev b E
      some (esc b y E)
    | _ => none
  | .tup es, E => do
    let (xs, E) ← evs es E
    some (mkTup xs, E)
  | .lst es, E => do
    let (xs, E) ← evs es E
    some (mkLst xs, E)
  | .dct0 t, E => some ((.dic t [], .deep), E)
  | .dct es, E => do
    let (xs, E) ← evs es E
    let kvs ← pairUp (ds xs)
    if keysOk kvs then some ((.dic false kvs, if allDeep xs then .deep else .top), E) else none
  | .inG neg e xs, E => do
    let (x, E) ← ev e E
    match x.1 with
    | .str s => some ((.bl (if neg then !xs.contains s else xs.contains s), .deep), E)
    | _ => none
  | .call g es, E => do
    let (as, E) ← eva es E
    callG Φ g as E
  | .callv f es, E => do
    let (x, E) ← ev f E
    match x.1 with
    | .fn g => do
      let (as, E) ← eva es E
      callG Φ g as E
    | _ => none
  | .mut m i es, E => match E[i]? with
    | some (some (.lst _, _)) => do
      let (xs, E) ← evs es E
      chg i [] (allDeep xs) (mutD m (ds xs)) E
    | _ => none
  | .mutP m p es, E => do
    let (ks, E) ← evk p E
    if (wrs es).contains (root p) then none
    else do
      let (xs, E) ← evs es E
      chg (root p) ks (allDeep xs) (mutD m (ds xs)) E
  | .comp shr elt tg k es cond, E => do
    let (xs, E) ← (match k with | .rng => evs es E | .zip => evs es E | _ => evit (tgs tg ++ (wrx elt ++ wr cond)) es E)
    let its ← items k (ds xs)
    if its.length ≤ line ∧ keepable (tgs tg) E then do
      let (acc, E1) ← compL (fun x E => do
        let E ← bindT tg x (wipes (tgs tg) E)
        let (c, E) ← ev cond E
        match c.1 with
        | .bl true => do
          let (y, E) ← ev elt E
          let (y, E) := esc elt y E
          if plain y.1 || shr || decide (y.2 = .deep) then some (some y, E) else none
        | .bl false => some (none, E)
        | _ => none) its E []
      some ((.lst acc, if shr && !plains acc then .top else .deep), back (tgs tg) E E1)
    else none
def evs : List Ex → En → Option (List Val × En)
  | [], E => some ([], E)
  | e :: es, E => do
    let (x, E) ← ev e E
    let (x, E) := esc e x E
    let (xs, E) ← evs es E
    some (x :: xs, E)
/-- what is walked: a place whose parts are plain is held, all else is given to all -/
def evit (w : List Nat) : List Ex → En → Option (List Val × En)
  | [], E => some ([], E)
  | e :: es, E => do
    let (x, E) ← ev e E
    let (x, E) := if isPl e && kplain x.1 && !isDicD x.1 && !w.contains (root e) then (x, E) else esc e x E
    let (xs, E) ← evit w es E
    some (x :: xs, E)
def eva : List Ex → En → Option (List Ar × En)
  | [], E => some ([], E)
  | .io i :: es, E => match E[i]? with
    | some (some _) => do
      let (xs, E) ← eva es E
      some (.inr i :: xs, E)
    | _ => none
  | e :: es, E => do
    let (x, E) ← ev e E
    let (x, E) := esc e x E
    let (xs, E) ← eva es E
    some (.inl x :: xs, E)
/-- a place's keys -/
def evk : Ex → En → Option (List D × En)
  | .var _, E => some ([], E)
  | .ix a k, E => do
    let (ks, E) ← evk a E
    let (y, E) ← ev k E
    some (ks ++ [y.1], E)
  | _, _ => none
end
def ex : Ss → En → Option Out
  | .skip, E => some (.nx E)
  | .seq a b, E => match ex a E with
    | some (.nx E1) => ex b E1
    | o => o
  | .set tg e, E => do
    let (x, E) ← ev Φ e E
    let (x, E) := esc e x E
    let E ← bindT tg x E
    some (.nx E)
  | .setIx i k e, E => do
    let (x, E) ← ev Φ e E
    let (x, E) := esc e x E
    match E[i]? with
    | some (some _) => do
      let (y, E) ← ev Φ k E
      let (_, E) ← chg i [] (plain x.1 || decide (x.2 = .deep)) (setD y.1 x.1) E
      some (.nx E)
    | _ => none
  | .setP p k e, E => do
    let (x, E) ← ev Φ e E
    let (x, E) := esc e x E
    let (ks, E) ← evk Φ p E
    if (wr k).contains (root p) then none
    else do
      let (y, E) ← ev Φ k E
      let (_, E) ← chg (root p) ks (plain x.1 || decide (x.2 = .deep)) (setD y.1 x.1) E
      some (.nx E)
  | .expr e, E => do
    let (_, E) ← ev Φ e E
    some (.nx E)
  | .ite c a b, E => do
    let (x, E) ← ev Φ c E
    match x.1 with
    | .bl true => ex a E
    | .bl false => ex b E
    | _ => none
  | .for_ tg k es body, E => do
    let (xs, E) ← (match k with | .rng => evs Φ es E | .zip => evs Φ es E | _ => evit Φ (wrS body ++ tgs tg) es E)
    let its ← items k (ds xs)
    forL (fun x E => do
      let E ← bindT tg x E
      ex body E) its E
  | .whl c body, E => whileL (fun E => do
      let (x, E) ← ev Φ c E
      match x.1 with
      | .bl b => some (b, E)
      | _ => none) (fun E => ex body E) 1000000 E
  | .ret (.var i), E => match E[i]? with
    | some (some x) => some (.rt x (if plain x.1 then E else E.set i none))
    | _ => none
  | .ret e, E => do
    let (x, E) ← ev Φ e E
    let (x, E) := esc e x E
    some (.rt x E)
  | .retn, E => some (.rt (.non, .deep) E)
end
structure Def where
  np : Nat
  ns : Nat
  body : Ss
def outs (d : Def) (E : En) : List (Option Val) := (List.range d.np).map fun j => if (asg d.body).contains j then none else E.getD j none
def callD (Φ : Phi) (d : Def) (xs : List Val) : Option (Val × List (Option Val)) :=
  if xs.length = d.np then
    match ex Φ d.body (xs.map some ++ List.replicate (d.ns - d.np) none) with
    | some (.rt x E) => some (x, outs d E)
    | some (.nx E) => some ((.non, .deep), outs d E)
    | none => none
  else none
def call (tab : Nat → Option Def) : Nat → Phi
  | 0 => fun _ _ => none
  | n + 1 => fun g xs => match tab g with
    | some d => callD (call tab n) d xs
    | none => none
end BS

set_option Elab.async false
set_option linter.all false
set_option maxRecDepth 100000
set_option maxHeartbeats 1000000
namespace BS
open PySem PySem.Spec PyProof.Rows L2

/-- the ghost heap of what never changes again -/
def Le (Z Z' : Hp) : Prop := ∀ a u, Z a = some u → Z' a = some u
theorem Le.refl (Z : Hp) : Le Z Z := fun _ _ h => h
theorem Le.trans {A B C : Hp} (x : Le A B) (y : Le B C) : Le A C := fun a u h => y a u (x a u h)
def isDic : HO → Prop
  | .dK _ => True
  | .dT _ => True
  | _ => False
def Sub (Z H : Hp) : Prop := ∀ a u, Z a = some u → H a = some u ∨ (isDic u ∧ ∃ o, H a = some (.frz o u))

def LAt (K : PySem.W.Frag) (Z H : Hp) : Ow → Addr → List V → Prop
  | .sh, p, vs => Z p = some (.lst vs)
  | _, p, vs => H p = some (.lst vs)
def CAt (Z H : Hp) : Ow → Addr → HO → Prop
  | .sh, p, o => Z p = some o
  | _, p, o => H p = some o
def own : Ow → Addr → List Addr → List Addr
  | .sh, _, G => G
  | _, p, G => p :: G
mutual
def R (K : PySem.W.Frag) (FA : Nat → Addr → Prop) (Z H : Hp) : Ow → D → V → List Addr → Prop
  | _, .non, v, F => v = .non ∧ F = []
  | _, .bl b, v, F => v = .bl b ∧ F = []
  | _, .int i, v, F => v = .int i ∧ F = []
  | _, .str s, v, F => (v = .str s ∧ s.length ≤ line ∧ PyData.strOk s = true) ∧ F = []
  | _, .fn g, v, F => (∃ a, v = .ref a ∧ FA g a) ∧ F = []
  | _, .scr ns, v, F => (∃ p, v = .ref p ∧ SqL K Z p (ns.map V.int)) ∧ F = []
  | w, .tup ds, v, F => ∃ t vs, v = .ref t ∧ Z t = some (.tup vs) ∧ Rs K FA Z H (kid w) ds vs F
  | w, .lst ds, v, F => ∃ p vs G, v = .ref p ∧ LAt K Z H w p vs ∧ Rs K FA Z H (kid w) ds vs G ∧ F = own w p G
  | w, .dic t kvs, v, F => ∃ p G, v = .ref p ∧ ((t = false ∧ ∃ kv, CAt Z H w p (.dK kv) ∧ (kv.map (·.1)).Nodup ∧ RK K FA Z H (kid w) kvs kv G) ∨ (t = true ∧ ∃ kv, CAt Z H w p (.dT kv) ∧ (kv.map (·.1)).Nodup ∧ RT K FA Z H (kid w) kvs kv G)) ∧ F = own w p G
def Rs (K : PySem.W.Frag) (FA : Nat → Addr → Prop) (Z H : Hp) : Ow → List D → List V → List Addr → Prop
  | _, [], vs, F => vs = [] ∧ F = []
  | w, d :: ds, vs, F => ∃ v us A B, vs = v :: us ∧ R K FA Z H w d v A ∧ Rs K FA Z H w ds us B ∧ F = A ++ B
def RK (K : PySem.W.Frag) (FA : Nat → Addr → Prop) (Z H : Hp) : Ow → List (D × D) → List (Key × V) → List Addr → Prop
  | _, [], vs, F => vs = [] ∧ F = []
  | w, (a, d) :: ds, vs, F => ∃ k v us A B, vs = (k, v) :: us ∧ keyD a = some k ∧ R K FA Z H w d v A ∧ RK K FA Z H w ds us B ∧ F = A ++ B
def RT (K : PySem.W.Frag) (FA : Nat → Addr → Prop) (Z H : Hp) : Ow → List (D × D) → List (List Key × V) → List Addr → Prop
  | _, [], vs, F => vs = [] ∧ F = []
  | w, (a, d) :: ds, vs, F => ∃ k v us A B, vs = (k, v) :: us ∧ keyT a = some k ∧ R K FA Z H w d v A ∧ RT K FA Z H w ds us B ∧ F = A ++ B
end

section
variable {K : PySem.W.Frag} {FA : Nat → Addr → Prop} {Z Z' H H' : Hp}

theorem SqT.le (h : Le Z Z') {t vs} (x : SqT K Z t vs) : SqT K Z' t vs := by
  rcases x with (x | ⟨o, x⟩) | x
  · exact .inl (.inl (h _ _ x))
  · exact .inl (.inr ⟨o, h _ _ x⟩)
  · exact .inr x
theorem SqL.le (h : Le Z Z') {t vs} (x : SqL K Z t vs) : SqL K Z' t vs := by
  rcases x with (x | ⟨o, x⟩) | x
  · exact .inl (.inl (h _ _ x))
  · exact .inl (.inr ⟨o, h _ _ x⟩)
  · exact .inr x
theorem SqT.sub (h : Sub Z H) {t vs} (x : SqT K Z t vs) : SqT K H t vs := by
  rcases x with (x | ⟨o, x⟩) | x
  · rcases h _ _ x with y | ⟨y, _⟩
    · exact .inl (.inl y)
    · exact y.elim
  · rcases h _ _ x with y | ⟨y, _⟩
    · exact .inl (.inr ⟨o, y⟩)
    · exact y.elim
  · exact .inr x
theorem SqL.sub (h : Sub Z H) {t vs} (x : SqL K Z t vs) : SqL K H t vs := by
  rcases x with (x | ⟨o, x⟩) | x
  · rcases h _ _ x with y | ⟨y, _⟩
    · exact .inl (.inl y)
    · exact y.elim
  · rcases h _ _ x with y | ⟨y, _⟩
    · exact .inl (.inr ⟨o, y⟩)
    · exact y.elim
  · exact .inr x
theorem LAt.sub (h : Sub Z H) {w p vs} (x : LAt K Z H w p vs) : SqL K H p vs := by
  cases w
  · rcases h _ _ x with y | ⟨y, _⟩
    · exact SqL.of y
    · exact y.elim
  · exact SqL.of x
  · exact SqL.of x
theorem LAt.sub' (h : Sub Z H) {w p vs} (x : LAt K Z H w p vs) : H p = some (.lst vs) := by
  cases w
  · rcases h _ _ x with y | ⟨y, _⟩
    · exact y
    · exact y.elim
  · exact x
  · exact x

theorem tup_sub (h : Sub Z H) {t vs} (x : Z t = some (.tup vs)) : H t = some (.tup vs) := by
  rcases h _ _ x with y | ⟨y, _⟩
  · exact y
  · exact y.elim
theorem CAt.sub (h : Sub Z H) {w p} {o : HO} (hd : isDic o) (x : CAt Z H w p o) : Rd H p o := by
  cases w
  · rcases h _ _ x with y | ⟨_, q, y⟩
    · exact .inl y
    · exact .inr ⟨q, y⟩
  · exact .inl x
  · exact .inl x

/- footprints of what is shared -/
mutual
theorem R_sh : ∀ (d : D) {v F}, R K FA Z H .sh d v F → F = []
  | .non, _, _, h => h.2
  | .bl _, _, _, h => h.2
  | .int _, _, _, h => h.2
  | .str _, _, _, h => h.2
  | .fn _, _, _, h => h.2
  | .scr _, _, _, h => h.2
  | .tup ds, _, _, ⟨_, _, _, _, h⟩ => Rs_sh ds h
  | .lst ds, _, _, ⟨_, _, _, _, _, h, e⟩ => by rw [e]; exact Rs_sh ds h
  | .dic tt kvs, _, _, ⟨_, _, _, h, e⟩ => by
    rw [e]
    rcases h with ⟨_, _, _, _, h⟩ | ⟨_, _, _, _, h⟩
    · exact RK_sh kvs h
    · exact RT_sh kvs h
theorem Rs_sh : ∀ (l : List D) {v F}, Rs K FA Z H .sh l v F → F = []
  | [], _, _, h => h.2
  | d :: l, _, _, ⟨_, _, _, _, _, h1, h2, e⟩ => by rw [e, R_sh d h1, Rs_sh l h2]; rfl
theorem RK_sh : ∀ (l : List (D × D)) {v F}, RK K FA Z H .sh l v F → F = []
  | [], _, _, h => h.2
  | (_, d) :: l, _, _, ⟨_, _, _, _, _, _, _, h1, h2, e⟩ => by rw [e, R_sh d h1, RK_sh l h2]; rfl
theorem RT_sh : ∀ (l : List (D × D)) {v F}, RT K FA Z H .sh l v F → F = []
  | [], _, _, h => h.2
  | (_, d) :: l, _, _, ⟨_, _, _, _, _, _, _, h1, h2, e⟩ => by rw [e, R_sh d h1, RT_sh l h2]; rfl
end
/- what is plain is the same whatever the flag -/
mutual
theorem R_plain : ∀ (d : D) {w v F}, plain d = true → R K FA Z H w d v F → F = [] ∧ ∀ w' H', R K FA Z H' w' d v []
  | .non, _, _, _, _, h => ⟨h.2, fun _ _ => ⟨h.1, rfl⟩⟩
  | .bl _, _, _, _, _, h => ⟨h.2, fun _ _ => ⟨h.1, rfl⟩⟩
  | .int _, _, _, _, _, h => ⟨h.2, fun _ _ => ⟨h.1, rfl⟩⟩
  | .str _, _, _, _, _, h => ⟨h.2, fun _ _ => ⟨h.1, rfl⟩⟩
  | .fn _, _, _, _, _, h => ⟨h.2, fun _ _ => ⟨h.1, rfl⟩⟩
  | .scr _, _, _, _, _, h => ⟨h.2, fun _ _ => ⟨h.1, rfl⟩⟩
  | .tup ds, _, _, _, p, ⟨t, vs, e, q, h⟩ => ⟨(Rs_plain ds p h).1, fun w' H' => ⟨t, vs, e, q, (Rs_plain ds p h).2 _ _⟩⟩
  | .lst ds, _, _, _, p, _ => by simp at p
  | .dic tt kvs, _, _, _, p, _ => by simp at p
theorem Rs_plain : ∀ (l : List D) {w v F}, plains l = true → Rs K FA Z H w l v F → F = [] ∧ ∀ w' H', Rs K FA Z H' w' l v []
  | [], _, _, _, _, h => ⟨h.2, fun _ _ => ⟨h.1, rfl⟩⟩
  | d :: l, _, _, _, p, ⟨v, us, A, B, e0, h1, h2, e⟩ => by
    simp only [plains, Bool.and_eq_true] at p
    obtain ⟨rfl, k1⟩ := R_plain d p.1 h1
    obtain ⟨rfl, k2⟩ := Rs_plain l p.2 h2
    exact ⟨e, fun w' H' => ⟨v, us, [], [], e0, k1 _ _, k2 _ _, rfl⟩⟩
end
/- what stands stays -/
mutual
theorem R_keep (hz : Le Z Z') : ∀ (d : D) {w v F}, (∀ a ∈ F, H' a = H a) → R K FA Z H w d v F → R K FA Z' H' w d v F
  | .non, _, _, _, _, h => h
  | .bl _, _, _, _, _, h => h
  | .int _, _, _, _, _, h => h
  | .str _, _, _, _, _, h => h
  | .fn _, _, _, _, _, h => h
  | .scr _, _, _, _, _, ⟨⟨p, e, q⟩, ef⟩ => ⟨⟨p, e, SqL.le hz q⟩, ef⟩
  | .tup ds, _, _, _, f, ⟨t, vs, e, q, h⟩ => ⟨t, vs, e, hz _ _ q, Rs_keep hz ds f h⟩
  | .lst ds, w, _, _, f, ⟨p, vs, G, e, q, h, ef⟩ => by
    subst ef
    cases w
    · exact ⟨p, vs, G, e, hz _ _ q, Rs_keep hz ds f h, rfl⟩
    · exact ⟨p, vs, G, e, (f p List.mem_cons_self).trans q, Rs_keep hz ds (fun a ha => f a (List.mem_cons_of_mem _ ha)) h, rfl⟩
    · exact ⟨p, vs, G, e, (f p List.mem_cons_self).trans q, Rs_keep hz ds (fun a ha => f a (List.mem_cons_of_mem _ ha)) h, rfl⟩
  | .dic tt kvs, w, _, _, f, ⟨p, G, e, q, ef⟩ => by
    subst ef
    cases w
    · refine ⟨p, G, e, ?_, rfl⟩
      rcases q with ⟨et, kv, c, hn, h⟩ | ⟨et, kv, c, hn, h⟩
      · exact .inl ⟨et, kv, hz _ _ c, hn, RK_keep hz kvs f h⟩
      · exact .inr ⟨et, kv, hz _ _ c, hn, RT_keep hz kvs f h⟩
    · refine ⟨p, G, e, ?_, rfl⟩
      rcases q with ⟨et, kv, c, hn, h⟩ | ⟨et, kv, c, hn, h⟩
      · exact .inl ⟨et, kv, (f p List.mem_cons_self).trans c, hn, RK_keep hz kvs (fun a ha => f a (List.mem_cons_of_mem _ ha)) h⟩
      · exact .inr ⟨et, kv, (f p List.mem_cons_self).trans c, hn, RT_keep hz kvs (fun a ha => f a (List.mem_cons_of_mem _ ha)) h⟩
    · refine ⟨p, G, e, ?_, rfl⟩
      rcases q with ⟨et, kv, c, hn, h⟩ | ⟨et, kv, c, hn, h⟩
      · exact .inl ⟨et, kv, (f p List.mem_cons_self).trans c, hn, RK_keep hz kvs (fun a ha => f a (List.mem_cons_of_mem _ ha)) h⟩
      · exact .inr ⟨et, kv, (f p List.mem_cons_self).trans c, hn, RT_keep hz kvs (fun a ha => f a (List.mem_cons_of_mem _ ha)) h⟩
theorem Rs_keep (hz : Le Z Z') : ∀ (l : List D) {w v F}, (∀ a ∈ F, H' a = H a) → Rs K FA Z H w l v F → Rs K FA Z' H' w l v F
  | [], _, _, _, _, h => h
  | d :: l, _, _, _, f, ⟨v, us, A, B, e0, h1, h2, e⟩ => by
    subst e
    exact ⟨v, us, A, B, e0, R_keep hz d (fun a ha => f a (List.mem_append_left _ ha)) h1, Rs_keep hz l (fun a ha => f a (List.mem_append_right _ ha)) h2, rfl⟩
theorem RK_keep (hz : Le Z Z') : ∀ (l : List (D × D)) {w v F}, (∀ a ∈ F, H' a = H a) → RK K FA Z H w l v F → RK K FA Z' H' w l v F
  | [], _, _, _, _, h => h
  | (_, d) :: l, _, _, _, f, ⟨k, v, us, A, B, e0, ek, h1, h2, e⟩ => by
    subst e
    exact ⟨k, v, us, A, B, e0, ek, R_keep hz d (fun a ha => f a (List.mem_append_left _ ha)) h1, RK_keep hz l (fun a ha => f a (List.mem_append_right _ ha)) h2, rfl⟩
theorem RT_keep (hz : Le Z Z') : ∀ (l : List (D × D)) {w v F}, (∀ a ∈ F, H' a = H a) → RT K FA Z H w l v F → RT K FA Z' H' w l v F
  | [], _, _, _, _, h => h
  | (_, d) :: l, _, _, _, f, ⟨k, v, us, A, B, e0, ek, h1, h2, e⟩ => by
    subst e
    exact ⟨k, v, us, A, B, e0, ek, R_keep hz d (fun a ha => f a (List.mem_append_left _ ha)) h1, RT_keep hz l (fun a ha => f a (List.mem_append_right _ ha)) h2, rfl⟩
end
/- what is our own is given to all -/
mutual
theorem R_share (hz : Le Z Z') : ∀ (d : D) {w v F}, (∀ a ∈ F, Z' a = H a) → R K FA Z H w d v F → R K FA Z' H' .sh d v []
  | .non, _, _, _, _, h => ⟨h.1, rfl⟩
  | .bl _, _, _, _, _, h => ⟨h.1, rfl⟩
  | .int _, _, _, _, _, h => ⟨h.1, rfl⟩
  | .str _, _, _, _, _, h => ⟨h.1, rfl⟩
  | .fn _, _, _, _, _, h => ⟨h.1, rfl⟩
  | .scr _, _, _, _, _, ⟨⟨p, e, q⟩, ef⟩ => ⟨⟨p, e, SqL.le hz q⟩, rfl⟩
  | .tup ds, _, _, _, f, ⟨t, vs, e, q, h⟩ => ⟨t, vs, e, hz _ _ q, Rs_share hz ds f h⟩
  | .lst ds, w, _, _, f, ⟨p, vs, G, e, q, h, ef⟩ => by
    subst ef
    cases w
    · exact ⟨p, vs, [], e, hz _ _ q, Rs_share hz ds f h, rfl⟩
    · exact ⟨p, vs, [], e, (f p List.mem_cons_self).trans q, Rs_share hz ds (fun a ha => f a (List.mem_cons_of_mem _ ha)) h, rfl⟩
    · exact ⟨p, vs, [], e, (f p List.mem_cons_self).trans q, Rs_share hz ds (fun a ha => f a (List.mem_cons_of_mem _ ha)) h, rfl⟩
  | .dic tt kvs, w, _, _, f, ⟨p, G, e, q, ef⟩ => by
    subst ef
    cases w
    · refine ⟨p, [], e, ?_, rfl⟩
      rcases q with ⟨et, kv, c, hn, h⟩ | ⟨et, kv, c, hn, h⟩
      · exact .inl ⟨et, kv, hz _ _ c, hn, RK_share hz kvs f h⟩
      · exact .inr ⟨et, kv, hz _ _ c, hn, RT_share hz kvs f h⟩
    · refine ⟨p, [], e, ?_, rfl⟩
      rcases q with ⟨et, kv, c, hn, h⟩ | ⟨et, kv, c, hn, h⟩
      · exact .inl ⟨et, kv, (f p List.mem_cons_self).trans c, hn, RK_share hz kvs (fun a ha => f a (List.mem_cons_of_mem _ ha)) h⟩
      · exact .inr ⟨et, kv, (f p List.mem_cons_self).trans c, hn, RT_share hz kvs (fun a ha => f a (List.mem_cons_of_mem _ ha)) h⟩
    · refine ⟨p, [], e, ?_, rfl⟩
      rcases q with ⟨et, kv, c, hn, h⟩ | ⟨et, kv, c, hn, h⟩
      · exact .inl ⟨et, kv, (f p List.mem_cons_self).trans c, hn, RK_share hz kvs (fun a ha => f a (List.mem_cons_of_mem _ ha)) h⟩
      · exact .inr ⟨et, kv, (f p List.mem_cons_self).trans c, hn, RT_share hz kvs (fun a ha => f a (List.mem_cons_of_mem _ ha)) h⟩
theorem Rs_share (hz : Le Z Z') : ∀ (l : List D) {w v F}, (∀ a ∈ F, Z' a = H a) → Rs K FA Z H w l v F → Rs K FA Z' H' .sh l v []
  | [], _, _, _, _, h => ⟨h.1, rfl⟩
  | d :: l, _, _, _, f, ⟨v, us, A, B, e0, h1, h2, e⟩ => by
    subst e
    exact ⟨v, us, [], [], e0, R_share hz d (fun a ha => f a (List.mem_append_left _ ha)) h1, Rs_share hz l (fun a ha => f a (List.mem_append_right _ ha)) h2, rfl⟩
theorem RK_share (hz : Le Z Z') : ∀ (l : List (D × D)) {w v F}, (∀ a ∈ F, Z' a = H a) → RK K FA Z H w l v F → RK K FA Z' H' .sh l v []
  | [], _, _, _, _, h => ⟨h.1, rfl⟩
  | (_, d) :: l, _, _, _, f, ⟨k, v, us, A, B, e0, ek, h1, h2, e⟩ => by
    subst e
    exact ⟨k, v, us, [], [], e0, ek, R_share hz d (fun a ha => f a (List.mem_append_left _ ha)) h1, RK_share hz l (fun a ha => f a (List.mem_append_right _ ha)) h2, rfl⟩
theorem RT_share (hz : Le Z Z') : ∀ (l : List (D × D)) {w v F}, (∀ a ∈ F, Z' a = H a) → RT K FA Z H w l v F → RT K FA Z' H' .sh l v []
  | [], _, _, _, _, h => ⟨h.1, rfl⟩
  | (_, d) :: l, _, _, _, f, ⟨k, v, us, A, B, e0, ek, h1, h2, e⟩ => by
    subst e
    exact ⟨k, v, us, [], [], e0, ek, R_share hz d (fun a ha => f a (List.mem_append_left _ ha)) h1, RT_share hz l (fun a ha => f a (List.mem_append_right _ ha)) h2, rfl⟩
end
end
end BS

set_option Elab.async false
set_option linter.all false
set_option maxRecDepth 100000
set_option maxHeartbeats 1000000
namespace BS
open PySem PySem.Spec PyProof.Rows L2
section
variable {K : PySem.W.Frag} {FA : Nat → Addr → Prop} {Z Z' H H' : Hp}
/- what has a footprint stands -/
mutual
theorem R_there : ∀ (d : D) {w v F a}, R K FA Z H w d v F → a ∈ F → H a ≠ none
  | .non, _, _, _, _, h, m => by rw [h.2] at m; cases m
  | .bl _, _, _, _, _, h, m => by rw [h.2] at m; cases m
  | .int _, _, _, _, _, h, m => by rw [h.2] at m; cases m
  | .str _, _, _, _, _, h, m => by rw [h.2] at m; cases m
  | .fn _, _, _, _, _, h, m => by rw [h.2] at m; cases m
  | .scr _, _, _, _, _, h, m => by rw [h.2] at m; cases m
  | .tup ds, _, _, _, _, ⟨t, vs, e, q, h⟩, m => Rs_there ds h m
  | .lst ds, w, _, _, a, ⟨p, vs, G, e, q, h, ef⟩, m => by
    subst ef
    cases w
    · exact Rs_there ds h m
    · rcases List.mem_cons.mp m with rfl | m
      · intro z
        rw [show H a = some (.lst vs) from q] at z
        cases z
      · exact Rs_there ds h m
    · rcases List.mem_cons.mp m with rfl | m
      · intro z
        rw [show H a = some (.lst vs) from q] at z
        cases z
      · exact Rs_there ds h m
  | .dic tt kvs, w, _, _, a, ⟨p, G, e, q, ef⟩, m => by
    subst ef
    have hd : w ≠ .sh → H p ≠ none := fun hw z => by
      rcases q with ⟨et, kv, c, hn, h⟩ | ⟨et, kv, c, hn, h⟩
      · cases w
        · exact hw rfl
        · rw [show H p = some (.dK kv) from c] at z
          cases z
        · rw [show H p = some (.dK kv) from c] at z
          cases z
      · cases w
        · exact hw rfl
        · rw [show H p = some (.dT kv) from c] at z
          cases z
        · rw [show H p = some (.dT kv) from c] at z
          cases z
    have hk : a ∈ G → H a ≠ none := fun m => by
      rcases q with ⟨et, kv, c, hn, h⟩ | ⟨et, kv, c, hn, h⟩
      · exact RK_there kvs h m
      · exact RT_there kvs h m
    cases w
    · exact hk m
    · rcases List.mem_cons.mp m with rfl | m
      · exact hd (by decide)
      · exact hk m
    · rcases List.mem_cons.mp m with rfl | m
      · exact hd (by decide)
      · exact hk m
theorem Rs_there : ∀ (l : List D) {w v F a}, Rs K FA Z H w l v F → a ∈ F → H a ≠ none
  | [], _, _, _, _, h, m => by rw [h.2] at m; cases m
  | d :: l, _, _, _, _, ⟨v, us, A, B, e0, h1, h2, e⟩, m => by
    subst e
    rcases List.mem_append.mp m with m | m
    · exact R_there d h1 m
    · exact Rs_there l h2 m
theorem RK_there : ∀ (l : List (D × D)) {w v F a}, RK K FA Z H w l v F → a ∈ F → H a ≠ none
  | [], _, _, _, _, h, m => by rw [h.2] at m; cases m
  | (_, d) :: l, _, _, _, _, ⟨k, v, us, A, B, e0, _, h1, h2, e⟩, m => by
    subst e
    rcases List.mem_append.mp m with m | m
    · exact R_there d h1 m
    · exact RK_there l h2 m
theorem RT_there : ∀ (l : List (D × D)) {w v F a}, RT K FA Z H w l v F → a ∈ F → H a ≠ none
  | [], _, _, _, _, h, m => by rw [h.2] at m; cases m
  | (_, d) :: l, _, _, _, _, ⟨k, v, us, A, B, e0, _, h1, h2, e⟩, m => by
    subst e
    rcases List.mem_append.mp m with m | m
    · exact R_there d h1 m
    · exact RT_there l h2 m
end
theorem R_vl {d : D} {w : Ow} {v : V} {F : List Addr} (h : R K FA Z H w d v F) : R K FA Z H (vl d w).2 (vl d w).1 v F := by
  unfold vl
  cases e : plain d with
  | true =>
    obtain ⟨rfl, k⟩ := R_plain d e h
    simp only [if_true]
    exact k _ _
  | false =>
    simpa using h

/-! ### slots -/
def RO (K : PySem.W.Frag) (FA : Nat → Addr → Prop) (Z H : Hp) : Option Val → Option V → List Addr → Prop
  | some x, some v, F => R K FA Z H x.2 x.1 v F
  | none, _, F => F = []
  | some _, none, _ => False
def RE (K : PySem.W.Frag) (FA : Nat → Addr → Prop) (Z H : Hp) : En → Sl → List (List Addr) → Prop
  | [], [], [] => True
  | x :: E, v :: σ, F :: Fs => RO K FA Z H x v F ∧ RE K FA Z H E σ Fs
  | _, _, _ => False
theorem RE.length : ∀ {E : En} {σ : Sl} {Fs : List (List Addr)}, RE K FA Z H E σ Fs → E.length = σ.length ∧ Fs.length = σ.length
  | [], [], [], _ => ⟨rfl, rfl⟩
  | x :: E, v :: σ, F :: Fs, h => by
    obtain ⟨a, b⟩ := RE.length h.2
    exact ⟨by simp [a], by simp [b]⟩
  | [], [], _ :: _, h => h.elim
  | [], _ :: _, _, h => h.elim
  | _ :: _, [], _, h => h.elim
  | _ :: _, _ :: _, [], h => h.elim
theorem RE.get : ∀ {E : En} {σ : Sl} {Fs : List (List Addr)} {i : Nat} {x : Option Val}, RE K FA Z H E σ Fs → E[i]? = some x → ∃ v, σ[i]? = some v ∧ RO K FA Z H x v (Fs.getD i [])
  | y :: E, v :: σ, F :: Fs, 0, x, h, e => by
    have e : y = x := by simpa using e
    subst e
    exact ⟨v, rfl, h.1⟩
  | _ :: E, _ :: σ, _ :: Fs, i + 1, x, h, e => by
    obtain ⟨v, a, b⟩ := RE.get (i := i) (x := x) h.2 (by simpa using e)
    exact ⟨v, by simpa using a, by simpa using b⟩
  | [], _, _, _, _, _, e => by simp at e
  | _ :: _, [], _, _, _, h, _ => h.elim
  | _ :: _, _ :: _, [], _, _, h, _ => h.elim
theorem RE.set : ∀ {E : En} {σ : Sl} {Fs : List (List Addr)} {i : Nat} {x : Option Val} {v : Option V} {F : List Addr}, RE K FA Z H E σ Fs → RO K FA Z H x v F → RE K FA Z H (E.set i x) (σ.set i v) (Fs.set i F)
  | [], [], [], _, _, _, _, _, _ => trivial
  | _ :: _, _ :: _, _ :: _, 0, _, _, _, h, r => ⟨r, h.2⟩
  | _ :: _, _ :: _, _ :: _, i + 1, _, _, _, h, r => ⟨h.1, RE.set h.2 r⟩
  | [], [], _ :: _, _, _, _, _, h, _ => h.elim
  | [], _ :: _, _, _, _, _, _, h, _ => h.elim
  | _ :: _, [], _, _, _, _, _, h, _ => h.elim
  | _ :: _, _ :: _, [], _, _, _, _, h, _ => h.elim
theorem set_self {α : Type} : ∀ {l : List α} {i : Nat} {x : α}, l[i]? = some x → l.set i x = l
  | _ :: _, 0, _, e => by simp at e; rw [e]; rfl
  | _ :: l, i + 1, x, e => by
    rw [List.set_cons_succ, set_self (l := l) (i := i) (x := x) (by simpa using e)]
  | [], _, _, e => by simp at e
/-- the entry alone is turned -/
theorem RE.turn {E : En} {σ : Sl} {Fs : List (List Addr)} {i : Nat} {x : Option Val} {v : Option V} {F : List Addr} (h : RE K FA Z H E σ Fs) (e : σ[i]? = some v) (r : RO K FA Z H x v F) : RE K FA Z H (E.set i x) σ (Fs.set i F) := by
  have := h.set (i := i) r
  rwa [set_self e] at this
theorem RE.keep (hz : Le Z Z') : ∀ {E : En} {σ : Sl} {Fs : List (List Addr)}, (∀ a ∈ Fs.flatten, H' a = H a) → RE K FA Z H E σ Fs → RE K FA Z' H' E σ Fs
  | [], [], [], _, _ => trivial
  | x :: E, v :: σ, F :: Fs, f, h => by
    refine ⟨?_, RE.keep hz (fun a ha => f a (by rw [List.flatten_cons]; exact List.mem_append_right _ ha)) h.2⟩
    have h1 := h.1
    cases x with
    | none => exact h1
    | some x =>
      cases v with
      | none => exact h1
      | some v => exact R_keep hz _ (fun a ha => f a (by rw [List.flatten_cons]; exact List.mem_append_left _ ha)) h1
  | [], [], _ :: _, _, h => h.elim
  | [], _ :: _, _, _, h => h.elim
  | _ :: _, [], _, _, h => h.elim
  | _ :: _, _ :: _, [], _, h => h.elim
theorem RE.there : ∀ {E : En} {σ : Sl} {Fs : List (List Addr)} {a : Addr}, RE K FA Z H E σ Fs → a ∈ Fs.flatten → H a ≠ none
  | [], [], [], _, _, m => by simp at m
  | x :: E, v :: σ, F :: Fs, a, h, m => by
    rw [List.flatten_cons] at m
    rcases List.mem_append.mp m with m | m
    · have h1 := h.1
      cases x with
      | none =>
        rw [show F = [] from h1] at m
        cases m
      | some x =>
        cases v with
        | none => exact h1.elim
        | some v => exact R_there _ h1 m
    · exact RE.there h.2 m
  | [], [], _ :: _, _, h, _ => h.elim
  | [], _ :: _, _, _, h, _ => h.elim
  | _ :: _, [], _, _, h, _ => h.elim
  | _ :: _, _ :: _, [], _, h, _ => h.elim

/-! ### lists of footprints -/
theorem mem_flat {Fs : List (List Addr)} {i : Nat} {a : Addr} (h : a ∈ Fs.getD i []) : a ∈ Fs.flatten := by
  rw [List.getD_eq_getElem?_getD] at h
  cases e : Fs[i]? with
  | none => rw [e] at h; cases h
  | some F =>
    rw [e] at h
    exact List.mem_flatten.mpr ⟨F, List.mem_of_getElem? e, h⟩
theorem of_flat {Fs : List (List Addr)} {a : Addr} (h : a ∈ Fs.flatten) : ∃ i, a ∈ Fs.getD i [] := by
  obtain ⟨F, hF, ha⟩ := List.mem_flatten.mp h
  obtain ⟨i, hi⟩ := List.getElem?_of_mem hF
  exact ⟨i, by rw [List.getD_eq_getElem?_getD, hi]; exact ha⟩
theorem flat_inj : ∀ {Fs : List (List Addr)} {i j : Nat} {a : Addr}, Fs.flatten.Nodup → a ∈ Fs.getD i [] → a ∈ Fs.getD j [] → i = j
  | [], i, _, _, _, h, _ => by simp at h
  | F :: Fs, 0, 0, _, _, _, _ => rfl
  | F :: Fs, 0, j + 1, a, n, h, h' => by
    rw [List.flatten_cons, List.nodup_append] at n
    exact absurd rfl (n.2.2 a (by simpa using h) a (mem_flat (i := j) (by simpa using h')))
  | F :: Fs, i + 1, 0, a, n, h, h' => by
    rw [List.flatten_cons, List.nodup_append] at n
    exact absurd rfl (n.2.2 a (by simpa using h') a (mem_flat (i := i) (by simpa using h)))
  | F :: Fs, i + 1, j + 1, a, n, h, h' => by
    rw [List.flatten_cons, List.nodup_append] at n
    exact congrArg (· + 1) (flat_inj (Fs := Fs) (i := i) (j := j) n.2.1 (by simpa using h) (by simpa using h'))
theorem getD_set {Fs : List (List Addr)} {i j : Nat} {F : List Addr} {a : Addr} (h : a ∈ (Fs.set i F).getD j []) : (i = j ∧ a ∈ F) ∨ (i ≠ j ∧ a ∈ Fs.getD j []) := by
  rw [List.getD_eq_getElem?_getD] at h
  by_cases e : i = j
  · subst e
    by_cases hl : i < Fs.length
    · rw [List.getElem?_set_self hl] at h
      exact .inl ⟨rfl, h⟩
    · rw [List.getElem?_eq_none (by simpa using hl)] at h
      cases h
  · rw [List.getElem?_set_ne e] at h
    exact .inr ⟨e, by rw [List.getD_eq_getElem?_getD]; exact h⟩
/-- a slot's footprint exchanged -/
theorem nodup_set : ∀ {Fs : List (List Addr)} {i : Nat} {F L : List Addr}, (L ++ Fs.flatten).Nodup → (F ++ (L ++ (Fs.set i []).flatten)).Nodup → (L ++ (Fs.set i F).flatten).Nodup
  | [], i, F, L, _, h => by
    have := h
    simp only [List.set_nil] at this ⊢
    exact (List.nodup_append.mp this).2.1
  | G :: Fs, 0, F, L, _, h => by
    simp only [List.set_cons_zero, List.flatten_cons, List.nil_append] at h ⊢
    have e : (F ++ (L ++ Fs.flatten)).Perm (L ++ (F ++ Fs.flatten)) := by
      rw [← List.append_assoc, ← List.append_assoc]
      exact List.Perm.append_right _ List.perm_append_comm
    exact e.nodup_iff.mp h
  | G :: Fs, i + 1, F, L, n, h => by
    simp only [List.set_cons_succ, List.flatten_cons] at n h ⊢
    rw [← List.append_assoc] at n ⊢
    refine nodup_set n ?_
    rw [List.append_assoc]
    exact h
theorem nodup_unset : ∀ {Fs : List (List Addr)} {i : Nat} {L : List Addr}, (L ++ Fs.flatten).Nodup → (L ++ (Fs.set i []).flatten).Nodup
  | [], _, _, h => h
  | G :: Fs, 0, L, h => by
    simp only [List.set_cons_zero, List.flatten_cons, List.nil_append] at h ⊢
    have := List.nodup_append.mp h
    refine List.nodup_append.mpr ⟨this.1, (List.nodup_append.mp this.2.1).2.1, fun a ha b hb => this.2.2 a ha b (List.mem_append_right _ hb)⟩
  | G :: Fs, i + 1, L, h => by
    simp only [List.set_cons_succ, List.flatten_cons] at h ⊢
    rw [← List.append_assoc] at h ⊢
    exact nodup_unset h
theorem mem_unset {Fs : List (List Addr)} {i : Nat} {a : Addr} (h : a ∈ (Fs.set i []).flatten) : a ∈ Fs.flatten := by
  obtain ⟨j, hj⟩ := of_flat h
  rcases getD_set hj with ⟨_, z⟩ | ⟨_, z⟩
  · cases z
  · exact mem_flat z

/-- cells of the slots w -/
def WC (Fs : List (List Addr)) (w : List Nat) (a : Addr) : Prop := ∃ i, i ∈ w ∧ a ∈ Fs.getD i []
theorem WC.flat {Fs : List (List Addr)} {w : List Nat} {a : Addr} (h : WC Fs w a) : a ∈ Fs.flatten := let ⟨_, _, z⟩ := h; mem_flat z
theorem WC.mono {Fs : List (List Addr)} {w w' : List Nat} {a : Addr} (h : WC Fs w a) (s : ∀ i ∈ w, i ∈ w') : WC Fs w' a := let ⟨i, x, z⟩ := h; ⟨i, s i x, z⟩

/-- where a place's part may lie -/
def inn : Bool → Option Val → List Addr → List Addr
  | true, some (.lst _, _), F => F.tail
  | true, some (.dic _ _, _), F => F.tail
  | _, _, F => F
theorem inn_sub {b : Bool} {o : Option Val} {F : List Addr} {a : Addr} (h : a ∈ inn b o F) : a ∈ F := by
  unfold inn at h
  split at h
  · exact List.mem_of_mem_tail h
  · exact List.mem_of_mem_tail h
  · exact h

/-- the state -/
structure Stt (K : PySem.W.Frag) (FA : Nat → Addr → Prop) (Z H : Hp) (E : En) (σ : Sl) (Fs : List (List Addr)) : Prop where
  sub : Sub Z H
  re : RE K FA Z H E σ Fs
  nd : Fs.flatten.Nodup
  zf : ∀ a ∈ Fs.flatten, Z a = none
/-- what has changed -/
structure Chg (w : List Nat) (Z H : Hp) (E : En) (Fs : List (List Addr)) (Z' H' : Hp) (E' : En) (Fs' : List (List Addr)) : Prop where
  le : Le Z Z'
  zn : ∀ a u, Z' a = some u → Z a = some u ∨ a ∈ Fs.flatten ∨ H a = none
  fr : ∀ i a, a ∈ Fs'.getD i [] → a ∈ Fs.getD i [] ∨ H a = none ∨ WC Fs w a
  frame : ∀ a u, H a = some u → ¬ WC Fs w a → H' a = some u
  there : ∀ a, H a ≠ none → H' a ≠ none
  same : ∀ i, i ∉ w → E'[i]? = E[i]? ∧ Fs'.getD i [] = Fs.getD i []
theorem Chg.refl (Z H : Hp) (E : En) (Fs : List (List Addr)) (w : List Nat) : Chg w Z H E Fs Z H E Fs :=
  ⟨Le.refl Z, fun _ _ h => .inl h, fun _ _ h => .inl h, fun _ _ h _ => h, fun _ h => h, fun _ _ => ⟨rfl, rfl⟩⟩
section
variable {w w2 : List Nat} {E E' E1 E2 : En} {Fs Fs' Fs1 Fs2 : List (List Addr)} {Z1 Z2 H1 H2 : Hp} {a : Addr}
theorem Chg.free (c : Chg w Z H E Fs Z' H' E' Fs') (h : H' a = none) : H a = none := by
  cases e : H a with
  | none => rfl
  | some u => exact absurd h (c.there a (by rw [e]; exact fun z => by cases z))
theorem Chg.mono (c : Chg w Z H E Fs Z' H' E' Fs') (s : ∀ i ∈ w, i ∈ w2) : Chg w2 Z H E Fs Z' H' E' Fs' :=
  ⟨c.le, c.zn, fun i a h => (c.fr i a h).imp id (Or.imp id fun z => z.mono s), fun a u h n => c.frame a u h fun z => n (z.mono s), c.there, fun i h => c.same i fun z => h (s i z)⟩
theorem Chg.flat (c : Chg w Z H E Fs Z' H' E' Fs') (h : a ∈ Fs'.flatten) : a ∈ Fs.flatten ∨ H a = none := by
  obtain ⟨i, hi⟩ := of_flat h
  rcases c.fr i a hi with z | z | z
  · exact .inl (mem_flat z)
  · exact .inr z
  · exact .inl z.flat
theorem Chg.wc (c : Chg w Z H E Fs Z' H' E' Fs') (h : WC Fs' w2 a) : WC Fs (w ++ w2) a ∨ H a = none := by
  obtain ⟨i, hi, ha⟩ := h
  rcases c.fr i a ha with z | z | z
  · exact .inl ⟨i, List.mem_append_right _ hi, z⟩
  · exact .inr z
  · exact .inl (z.mono fun i hi => List.mem_append_left _ hi)
theorem Chg.trans (c : Chg w Z H E Fs Z1 H1 E1 Fs1) (d : Chg w2 Z1 H1 E1 Fs1 Z2 H2 E2 Fs2) : Chg (w ++ w2) Z H E Fs Z2 H2 E2 Fs2 where
  le := c.le.trans d.le
  zn := fun a u h => by
    rcases d.zn a u h with z | z | z
    · exact c.zn a u z
    · exact .inr (c.flat z)
    · exact .inr (.inr (c.free z))
  fr := fun i a h => by
    rcases d.fr i a h with z | z | z
    · rcases c.fr i a z with y | y | y
      · exact .inl y
      · exact .inr (.inl y)
      · exact .inr (.inr (y.mono fun i hi => List.mem_append_left _ hi))
    · exact .inr (.inl (c.free z))
    · rcases c.wc z with y | y
      · exact .inr (.inr y)
      · exact .inr (.inl y)
  frame := fun a u h n => by
    have h1 := c.frame a u h fun z => n (z.mono fun i hi => List.mem_append_left _ hi)
    refine d.frame a u h1 fun z => ?_
    rcases c.wc z with y | y
    · exact n y
    · rw [y] at h; cases h
  there := fun a h => d.there a (c.there a h)
  same := fun i h => by
    obtain ⟨a1, b1⟩ := c.same i fun z => h (List.mem_append_left _ z)
    obtain ⟨a2, b2⟩ := d.same i fun z => h (List.mem_append_right _ z)
    exact ⟨a2.trans a1, b2.trans b1⟩
end
/-- behind an expression -/
structure Pe (K : PySem.W.Frag) (FA : Nat → Addr → Prop) (w : List Nat) (pr : Option (Nat × Bool)) (Z H : Hp) (E : En) (Fs : List (List Addr)) (σ : Sl) (x : Val) (E' : En) (v : V) (Z' H' : Hp) (Fd : List Addr) (Fs' : List (List Addr)) : Prop where
  st : Stt K FA Z' H' E' σ Fs'
  ch : Chg w Z H E Fs Z' H' E' Fs'
  val : R K FA Z' H' x.2 x.1 v Fd
  ex : pr = none → (Fd ++ Fs'.flatten).Nodup ∧ (∀ a ∈ Fd, Z' a = none) ∧ ∀ a ∈ Fd, H a = none ∨ WC Fs w a
  pl : ∀ i b, pr = some (i, b) → (∀ a ∈ Fd, a ∈ inn b (E'.getD i none) (Fs'.getD i [])) ∧ (b = false → E'.getD i none = some x ∧ Fs'.getD i [] = Fd)
section
variable {w w2 : List Nat} {pr pr2 : Option (Nat × Bool)} {Z1 Z2 H1 H2 : Hp} {Fs Fs1 Fs2 : List (List Addr)} {σ : Sl} {x y : Val} {E E1 E2 : En} {v u : V} {Fd Fd2 : List Addr}
theorem Pe.trans (p : Pe K FA w pr Z H E Fs σ x E1 v Z1 H1 Fd Fs1) (q : Pe K FA w2 pr2 Z1 H1 E1 Fs1 σ y E2 u Z2 H2 Fd2 Fs2) : Pe K FA (w ++ w2) pr2 Z H E Fs σ y E2 u Z2 H2 Fd2 Fs2 where
  st := q.st
  ch := p.ch.trans q.ch
  val := q.val
  ex := fun e => by
    obtain ⟨a, b, c⟩ := q.ex e
    refine ⟨a, b, fun z hz => ?_⟩
    rcases c z hz with y | y
    · exact .inl (p.ch.free y)
    · exact (p.ch.wc y).symm
  pl := q.pl
theorem Pe.mono (p : Pe K FA w pr Z H E Fs σ x E1 v Z' H' Fd Fs1) (s : ∀ i ∈ w, i ∈ w2) : Pe K FA w2 pr Z H E Fs σ x E1 v Z' H' Fd Fs1 :=
  ⟨p.st, p.ch.mono s, p.val, fun e => let ⟨a, b, c⟩ := p.ex e; ⟨a, b, fun z hz => (c z hz).imp id fun y => y.mono s⟩, p.pl⟩
/-- a first value, behind what changes others -/
theorem Pe.keep (p : Pe K FA w pr Z H E Fs σ x E1 v Z1 H1 Fd Fs1) (q : Chg w2 Z1 H1 E1 Fs1 Z2 H2 E2 Fs2) (h : ∀ i b, pr = some (i, b) → plain x.1 = true ∨ i ∉ w2) :
    (∀ a ∈ Fd, H2 a = H1 a) ∧ R K FA Z2 H2 x.2 x.1 v Fd := by
  have key : ∀ a ∈ Fd, H2 a = H1 a := fun a ha => by
    have ht := R_there _ p.val ha
    cases e : H1 a with
    | none => exact absurd e ht
    | some o =>
      refine q.frame a o e fun z => ?_
      cases pr with
      | none =>
        obtain ⟨nd, _⟩ := p.ex rfl
        exact absurd rfl ((List.nodup_append.mp nd).2.2 a ha a z.flat)
      | some ib =>
        obtain ⟨i, b⟩ := ib
        rcases h i b rfl with pp | ni
        · obtain ⟨e, _⟩ := R_plain _ pp p.val
          rw [e] at ha
          cases ha
        · obtain ⟨j, hj, haj⟩ := z
          have := flat_inj p.st.nd (inn_sub ((p.pl i b rfl).1 a ha)) haj
          exact ni (this ▸ hj)
  exact ⟨key, R_keep q.le _ key p.val⟩
/-- .. its own cells stay apart -/
theorem Pe.apart (p : Pe K FA w none Z H E Fs σ x E1 v Z1 H1 Fd Fs1) (q : Chg w2 Z1 H1 E1 Fs1 Z2 H2 E2 Fs2) : (∀ a ∈ Fd, a ∉ Fs2.flatten) ∧ (∀ a ∈ Fd, Z2 a = none) ∧ (∀ a ∈ Fd, ¬ (H1 a = none ∨ WC Fs1 w2 a)) := by
  obtain ⟨nd, zf, _⟩ := p.ex rfl
  have n1 : ∀ a ∈ Fd, a ∉ Fs1.flatten := fun a ha hb => absurd rfl ((List.nodup_append.mp nd).2.2 a ha a hb)
  refine ⟨fun a ha hb => ?_, fun a ha => ?_, fun a ha => ?_⟩
  · rcases q.flat hb with z | z
    · exact n1 a ha z
    · exact R_there _ p.val ha z
  · cases e : Z2 a with
    | none => rfl
    | some u =>
      rcases q.zn a u e with z | z | z
      · rw [zf a ha] at z; cases z
      · exact absurd z (n1 a ha)
      · exact absurd z (R_there _ p.val ha)
  · rintro (z | z)
    · exact R_there _ p.val ha z
    · exact n1 a ha z.flat
/-- a plain value leaves nothing to be looked after -/
theorem Pe.plain (p : Pe K FA w pr Z H E Fs σ x E1 v Z1 H1 Fd Fs1) {d : D} {u : V} (hr : ∀ w, R K FA Z1 H1 w d u []) : Pe K FA w none Z H E Fs σ (d, .deep) E1 u Z1 H1 [] Fs1 :=
  ⟨p.st, p.ch, hr _, fun _ => ⟨by simpa using p.st.nd, fun _ h => (by cases h), fun _ h => (by cases h)⟩, fun _ _ h => (by cases h)⟩
end
end
end BS

set_option Elab.async false
set_option linter.all false
set_option maxRecDepth 100000
set_option maxHeartbeats 1000000
namespace BS
open PySem PySem.Spec PyProof.Rows L2

structure Bk where
  K : PySem.W.Frag
  FA : Nat → Addr → Prop
  Φ : Phi
def isIx : Ex → Bool
  | .ix _ _ => true
  | _ => false
def pr (e : Ex) : Option (Nat × Bool) := if isPl e then some (root e, isIx e) else none

/-! ### giving to all -/
def zadd (Z H : Hp) (S : List Addr) : Hp := fun a => if a ∈ S then H a else Z a
theorem zadd_le {Z H : Hp} {S : List Addr} (h : ∀ a ∈ S, Z a = none) : Le Z (zadd Z H S) := fun a u e => by
  unfold zadd
  by_cases m : a ∈ S
  · rw [h a m] at e; cases e
  · rw [if_neg m]; exact e
theorem zadd_in {Z H : Hp} {S : List Addr} {a : Addr} (h : a ∈ S) : zadd Z H S a = H a := if_pos h
theorem zadd_out {Z H : Hp} {S : List Addr} {a : Addr} (h : a ∉ S) : zadd Z H S a = Z a := if_neg h
theorem zadd_sub {Z H : Hp} {S : List Addr} (h : Sub Z H) : Sub (zadd Z H S) H := fun a u e => by
  by_cases m : a ∈ S
  · rw [zadd_in m] at e; exact .inl e
  · rw [zadd_out m] at e; exact h a u e
section
variable {K : PySem.W.Frag} {FA : Nat → Addr → Prop} {Z Z' H H' : Hp}
/-- a root, when a part of it goes elsewhere -/
theorem R_down {d : D} {w : Ow} {v : V} {F : List Addr} (h : R K FA Z H w d v F) : ∃ F' S, F = F' ++ S ∧ (∀ a ∈ inn true (some (d, w)) F, a ∈ S) ∧ ∀ Z', Le Z Z' → (∀ a ∈ S, Z' a = H a) → R K FA Z' H (down d w) d v F' := by
  have other : (∀ a ∈ inn true (some (d, w)) F, a ∈ F) → (∀ Z', Le Z Z' → (∀ a ∈ F, Z' a = H a) → R K FA Z' H (down d w) d v []) → ∃ F' S, F = F' ++ S ∧ (∀ a ∈ inn true (some (d, w)) F, a ∈ S) ∧ ∀ Z', Le Z Z' → (∀ a ∈ S, Z' a = H a) → R K FA Z' H (down d w) d v F' :=
    fun h1 h2 => ⟨[], F, rfl, h1, h2⟩
  cases d with
  | non => exact other (fun _ => inn_sub) fun Z' l f => R_share l _ f h
  | bl b => exact other (fun _ => inn_sub) fun Z' l f => R_share l _ f h
  | int b => exact other (fun _ => inn_sub) fun Z' l f => R_share l _ f h
  | str b => exact other (fun _ => inn_sub) fun Z' l f => R_share l _ f h
  | fn b => exact other (fun _ => inn_sub) fun Z' l f => R_share l _ f h
  | scr b => exact other (fun _ => inn_sub) fun Z' l f => R_share l _ f h
  | tup b => exact other (fun _ => inn_sub) fun Z' l f => R_share l _ f h
  | lst ds =>
    cases w with
    | sh => exact other (fun _ => inn_sub) fun Z' l f => R_share l _ f h
    | top =>
      obtain ⟨p, vs, G, e, q, hc, ef⟩ := h
      have eg : G = [] := Rs_sh ds hc
      subst eg
      subst ef
      exact ⟨[p], [], rfl, fun a ha => (by simp [inn, own] at ha), fun Z' l f => ⟨p, vs, [], e, q, Rs_keep l ds (fun _ m => (by cases m)) hc, rfl⟩⟩
    | deep =>
      obtain ⟨p, vs, G, e, q, hc, ef⟩ := h
      subst ef
      exact ⟨[p], G, rfl, fun a ha => (by simpa [inn, own] using ha), fun Z' l f => ⟨p, vs, [], e, q, Rs_share l ds f hc, rfl⟩⟩
  | dic tt kvs =>
    cases w with
    | sh => exact other (fun _ => inn_sub) fun Z' l f => R_share l _ f h
    | top =>
      obtain ⟨p, G, e, q, ef⟩ := h
      have eg : G = [] := by
        rcases q with ⟨_, _, _, _, hc⟩ | ⟨_, _, _, _, hc⟩
        · exact RK_sh kvs hc
        · exact RT_sh kvs hc
      subst eg
      subst ef
      refine ⟨[p], [], rfl, fun a ha => (by simp [inn, own] at ha), fun Z' l f => ⟨p, [], e, ?_, rfl⟩⟩
      rcases q with ⟨et, kv, c, hn, hc⟩ | ⟨et, kv, c, hn, hc⟩
      · exact .inl ⟨et, kv, c, hn, RK_keep l kvs (fun _ m => (by cases m)) hc⟩
      · exact .inr ⟨et, kv, c, hn, RT_keep l kvs (fun _ m => (by cases m)) hc⟩
    | deep =>
      obtain ⟨p, G, e, q, ef⟩ := h
      subst ef
      refine ⟨[p], G, rfl, fun a ha => (by simpa [inn, own] using ha), fun Z' l f => ⟨p, [], e, ?_, rfl⟩⟩
      rcases q with ⟨et, kv, c, hn, hc⟩ | ⟨et, kv, c, hn, hc⟩
      · exact .inl ⟨et, kv, c, hn, RK_share l kvs f hc⟩
      · exact .inr ⟨et, kv, c, hn, RT_share l kvs f hc⟩
theorem nodup_part {Fs : List (List Addr)} {i : Nat} {F' S : List Addr} (n : Fs.flatten.Nodup) (e : Fs.getD i [] = F' ++ S) : (Fs.set i F').flatten.Nodup ∧ (∀ a ∈ S, a ∉ (Fs.set i F').flatten) ∧ ∀ a ∈ (Fs.set i F').flatten, a ∈ Fs.flatten := by
  have sub : ∀ a ∈ (Fs.set i F').flatten, a ∈ Fs.flatten := fun a ha => by
    obtain ⟨j, hj⟩ := of_flat ha
    rcases getD_set hj with ⟨_, z⟩ | ⟨_, z⟩
    · exact mem_flat (i := i) (by rw [e]; exact List.mem_append_left _ z)
    · exact mem_flat z
  have nFS : (F' ++ S).Nodup := by
    rw [← e]
    by_cases hl : i < Fs.length
    · rw [List.getD_eq_getElem?_getD, List.getElem?_eq_getElem hl]
      exact n.sublist (List.sublist_flatten_of_mem (List.getElem_mem hl))
    · rw [List.getD_eq_getElem?_getD, List.getElem?_eq_none (by simpa using hl)]
      exact List.nodup_nil
  refine ⟨?_, fun a ha hb => ?_, sub⟩
  · have := nodup_set (Fs := Fs) (i := i) (F := F') (L := []) n ?_
    · simpa using this
    · refine List.nodup_append.mpr ⟨(List.nodup_append.mp nFS).1, nodup_unset (L := []) (by simpa using n), fun a ha b hb => ?_⟩
      rintro rfl
      obtain ⟨j, hj⟩ := of_flat (by simpa using hb)
      rcases getD_set hj with ⟨_, z⟩ | ⟨ne, z⟩
      · cases z
      · exact ne (flat_inj n (by rw [e]; exact List.mem_append_left _ ha) z)
  · obtain ⟨j, hj⟩ := of_flat hb
    rcases getD_set hj with ⟨_, z⟩ | ⟨ne, z⟩
    · exact absurd rfl ((List.nodup_append.mp nFS).2.2 a z a ha)
    · exact ne (flat_inj n (by rw [e]; exact List.mem_append_right _ ha) z)
theorem getD_eq_of {E : En} {i : Nat} {o : Option Val} (h : E.getD i none = o) (ho : o ≠ none) : E[i]? = some o := by
  rw [List.getD_eq_getElem?_getD] at h
  cases e : E[i]? with
  | none => rw [e] at h; exact absurd h.symm ho
  | some q => rw [e] at h; exact congrArg some h
/-- slot i's value gives S of its own to all -/
theorem Stt.give {E : En} {σ : Sl} {Fs : List (List Addr)} {i : Nat} {d : D} {w w' : Ow} {F' S : List Addr} (st : Stt K FA Z H E σ Fs) (e : E[i]? = some (some (d, w))) (ef : Fs.getD i [] = F' ++ S)
    (r : ∀ v, σ[i]? = some (some v) → R K FA Z H w d v (F' ++ S) → ∀ Z', Le Z Z' → (∀ a ∈ S, Z' a = H a) → R K FA Z' H w' d v F') :
    Stt K FA (zadd Z H S) H (E.set i (some (d, w'))) σ (Fs.set i F') ∧ Chg [i] Z H E Fs (zadd Z H S) H (E.set i (some (d, w'))) (Fs.set i F') := by
  have zS : ∀ a ∈ S, Z a = none := fun a ha => st.zf a (mem_flat (i := i) (by rw [ef]; exact List.mem_append_right _ ha))
  have le := zadd_le (H := H) zS
  obtain ⟨nd, out, sub⟩ := nodup_part st.nd ef
  obtain ⟨v, hv, ro⟩ := st.re.get e
  refine ⟨⟨zadd_sub st.sub, ?_, nd, fun a ha => ?_⟩, ⟨le, fun a u h => ?_, fun j a h => ?_, fun a u h _ => h, fun a h => h, fun j hj => ?_⟩⟩
  · have k := RE.keep le (fun _ _ => rfl) st.re
    cases v with
    | none => exact ro.elim
    | some v =>
      have ro : R K FA Z H w d v (Fs.getD i []) := ro
      rw [ef] at ro
      exact k.turn hv (x := some (d, w')) (r v hv ro _ le fun a ha => zadd_in ha)
  · rw [zadd_out fun z => out a z ha]
    exact st.zf a (sub a ha)
  · by_cases m : a ∈ S
    · exact .inr (.inl (mem_flat (i := i) (by rw [ef]; exact List.mem_append_right _ m)))
    · rw [zadd_out m] at h
      exact .inl h
  · rcases getD_set h with ⟨rfl, z⟩ | ⟨_, z⟩
    · exact .inl (by rw [ef]; exact List.mem_append_left _ z)
    · exact .inl z
  · have ne : i ≠ j := fun z => hj (by simp [z])
    rw [List.getElem?_set_ne ne, List.getD_eq_getElem?_getD, List.getElem?_set_ne ne, ← List.getD_eq_getElem?_getD]
    exact ⟨rfl, rfl⟩
/-- a place's value goes elsewhere -/
theorem Pe.esc {w : List Nat} {e : Ex} {E E1 : En} {Fs Fs1 : List (List Addr)} {σ : Sl} {x : Val} {v : V} {Fd : List Addr} (p : Pe K FA w (pr e) Z H E Fs σ x E1 v Z' H' Fd Fs1) :
    ∃ Z'' Fd'' Fs'', Pe K FA ((if isPl e then [root e] else []) ++ w) none Z H E Fs σ (BS.esc e x E1).1 (BS.esc e x E1).2 v Z'' H' Fd'' Fs'' := by
  have sub : ∀ i ∈ w, i ∈ (if isPl e then [root e] else []) ++ w := fun i h => List.mem_append_right _ h
  cases hp : isPl e with
  | false =>
    have ep : pr e = none := by simp [pr, hp]
    rw [ep] at p
    refine ⟨Z', Fd, Fs1, ?_⟩
    simp only [BS.esc, hp, Bool.false_and]
    exact p
  | true =>
    cases hx : BS.plain x.1 with
    | true =>
      obtain ⟨e0, hr⟩ := R_plain _ hx p.val
      refine ⟨Z', [], Fs1, ?_⟩
      simp only [BS.esc, hp, hx, Bool.not_true, Bool.and_false]
      have q := (p.plain (d := x.1) (u := v) fun w => hr w _).mono fun i h => (List.mem_append_right [root e] h)
      exact ⟨q.st, q.ch, hr _ _, q.ex, fun _ _ z => (by cases z)⟩
    | false =>
      have ee : BS.esc e x E1 = ((x.1, .sh), shRoot e E1) := by simp [BS.esc, hp, hx]
      rw [ee]
      -- the root's entry stands
      have fd0 : ∀ b, (∀ i b', pr e = some (i, b') → i = root e ∧ b' = b) → Fd ≠ [] → ∃ d w0, E1[root e]? = some (some (d, w0)) := fun b hb hF => by
        cases Fd with
        | nil => exact absurd rfl hF
        | cons a r =>
          have := (p.pl (root e) (isIx e) (by simp [pr, hp])).1 a List.mem_cons_self
          have hm := inn_sub this
          cases q : E1[root e]? with
          | none =>
            have l := p.st.re.length
            rw [List.getD_eq_getElem?_getD, List.getElem?_eq_none (by have := List.getElem?_eq_none_iff.mp q; omega)] at hm
            cases hm
          | some o =>
            cases o with
            | none =>
              obtain ⟨v', _, ro⟩ := p.st.re.get q
              rw [show Fs1.getD (root e) [] = [] from ro] at hm
              cases hm
            | some dw => exact ⟨dw.1, dw.2, rfl⟩
      -- nothing of our own within
      have none_own : Fd = [] → ∀ E2 Fs2 Z2, Stt K FA Z2 H' E2 σ Fs2 → Chg [root e] Z' H' E1 Fs1 Z2 H' E2 Fs2 → Pe K FA ([root e] ++ w) none Z H E Fs σ (x.1, .sh) E2 v Z2 H' [] Fs2 := fun hF E2 Fs2 Z2 s2 c2 => by
        subst hF
        have c := p.ch.trans c2
        refine ⟨s2, c.mono fun i h => ?_, R_share c2.le _ (fun _ m => (by cases m)) p.val, fun _ => ⟨by simpa using s2.nd, fun _ h => (by cases h), fun _ h => (by cases h)⟩, fun _ _ z => (by cases z)⟩
        rcases List.mem_append.mp h with z | z
        · exact List.mem_append_right _ z
        · exact List.mem_append_left _ z
      -- sharing the root
      have go : ∀ d w0 w' F' S, E1[root e]? = some (some (d, w0)) → Fs1.getD (root e) [] = F' ++ S → (∀ a ∈ Fd, a ∈ S) → (∀ v, σ[root e]? = some (some v) → R K FA Z' H' w0 d v (F' ++ S) → ∀ Z2, Le Z' Z2 → (∀ a ∈ S, Z2 a = H' a) → R K FA Z2 H' w' d v F') →
          ∃ Z'' Fd'' Fs'', Pe K FA ([root e] ++ w) none Z H E Fs σ (x.1, .sh) (E1.set (root e) (some (d, w'))) v Z'' H' Fd'' Fs'' := fun d w0 w' F' S q ef hS hr => by
        obtain ⟨s2, c2⟩ := p.st.give q ef hr
        refine ⟨_, [], _, ⟨s2, (p.ch.trans c2).mono fun i h => ?_, R_share c2.le _ (fun a ha => zadd_in (hS a ha)) p.val, fun _ => ⟨by simpa using s2.nd, fun _ h => (by cases h), fun _ h => (by cases h)⟩, fun _ _ z => (by cases z)⟩⟩
        rcases List.mem_append.mp h with z | z
        · exact List.mem_append_right _ z
        · exact List.mem_append_left _ z
      simp only [if_true]
      cases q : E1[root e]? with
      | none =>
        have hF : Fd = [] := Classical.byContradiction fun h => by
          obtain ⟨d, w0, z⟩ := fd0 (isIx e) (fun i b' h => by simp [pr, hp] at h; exact ⟨h.1.symm, h.2.symm⟩) h
          rw [q] at z; cases z
        have es : shRoot e E1 = E1 := by
          cases e with
          | var i => simp only [root] at q; simp [shRoot, q]
          | ix a k => simp only [root] at q; simp [shRoot, q]
          | _ => rfl
        rw [es]
        exact ⟨_, _, _, none_own hF E1 Fs1 Z' p.st (Chg.refl _ _ _ _ _)⟩
      | some o =>
        cases o with
        | none =>
          have hF : Fd = [] := Classical.byContradiction fun h => by
            obtain ⟨d, w0, z⟩ := fd0 (isIx e) (fun i b' h => by simp [pr, hp] at h; exact ⟨h.1.symm, h.2.symm⟩) h
            rw [q] at z; cases z
          have es : shRoot e E1 = E1 := by
            cases e with
            | var i => simp only [root] at q; simp [shRoot, q]
            | ix a k => simp only [root] at q; simp [shRoot, q]
            | _ => rfl
          rw [es]
          exact ⟨_, _, _, none_own hF E1 Fs1 Z' p.st (Chg.refl _ _ _ _ _)⟩
        | some dw =>
          obtain ⟨d, w0⟩ := dw
          obtain ⟨v0, hv0, ro⟩ := p.st.re.get q
          cases v0 with
          | none => exact ro.elim
          | some v0 =>
            have ro : R K FA Z' H' w0 d v0 (Fs1.getD (root e) []) := ro
            have pl := (p.pl (root e) (isIx e) (by simp [pr, hp])).1
            cases e with
            | var i =>
              have es : shRoot (.var i) E1 = E1.set i (some (d, .sh)) := by simp only [root] at q; simp [shRoot, q]
              rw [es]
              exact go d w0 .sh [] _ q rfl (fun a ha => inn_sub (pl a ha)) fun v _ r Z2 l f => R_share l _ f r
            | ix a k =>
              have es : shRoot (.ix a k) E1 = E1.set (root a) (some (d, down d w0)) := by simp only [root] at q; simp [shRoot, q]
              rw [es]
              obtain ⟨F', S, ef, hi, hr⟩ := R_down ro
              refine go d w0 (down d w0) F' S q ef (fun a' ha => hi a' ?_) fun v ev r Z2 l f => ?_
              · have := pl a' ha
                rw [List.getD_eq_getElem?_getD, q] at this
                exact this
              · rw [hv0] at ev
                cases ev
                exact hr Z2 l f
            | _ => simp at hp
end
end BS

set_option Elab.async false
set_option linter.all false
set_option maxRecDepth 100000
set_option maxHeartbeats 1000000
namespace BS
open PySem PySem.Spec PyProof.Rows L2

theorem _root_.L2.PE.imp {X : Cx} {e : Expr} {t t' : TE} (h : PE X e t) (k : ∀ σ H Q, t' σ H Q → t σ H Q) : PE X e t' := ⟨fun pins s σ H Q I w => h.run pins s σ H Q I (k σ H Q w)⟩
theorem _root_.L2.PE.or {X : Cx} {e : Expr} {t t' : TE} (h : PE X e t) (h' : PE X e t') : PE X e (fun σ H Q => t σ H Q ∨ t' σ H Q) :=
  ⟨fun pins s σ H Q I w => w.elim (h.run pins s σ H Q I) (h'.run pins s σ H Q I)⟩
theorem _root_.L2.PT.imp {X : Cx} {e : Expr} {t t' : TT} (h : PT X e t) (k : ∀ σ H Q, t' σ H Q → t σ H Q) : PT X e t' := ⟨fun pins s σ H Q I w => h.run pins s σ H Q I (k σ H Q w)⟩
theorem _root_.L2.PW.imp {X : Cx} {e : Expr} {t t' : TT} (h : PW X e t) (k : ∀ σ H Q, t' σ H Q → t σ H Q) : PW X e t' := ⟨fun wh pins s σ H Q I w => h.run wh pins s σ H Q I (k σ H Q w)⟩
theorem _root_.L2.PA.imp {X : Cx} {e : List Expr} {t t' : TA} (h : PA X e t) (k : ∀ σ H Q, t' σ H Q → t σ H Q) : PA X e t' := ⟨fun pos pins s σ H Q I w => h.run pos pins s σ H Q I (k σ H Q w)⟩
theorem _root_.L2.PS.imp {X : Cx} {e : Stmt} {t t' : TS} (h : PS X e t) (k : ∀ D σ H, t' D σ H → t D σ H) : PS X e t' := ⟨fun pins s σ H D I w => h.run pins s σ H D I (k D σ H w)⟩
theorem _root_.L2.PSs.imp {X : Cx} {e : List Stmt} {t t' : TS} (h : PSs X e t) (k : ∀ D σ H, t' D σ H → t D σ H) : PSs X e t' := ⟨fun pins s σ H D I w => h.run pins s σ H D I (k D σ H w)⟩

/-- an expression's reading; with its value going elsewhere; as a test -/
def SE (B : Bk) (e : Ex) : TE := fun σ H Q => ∃ Z E Fs x E', Stt B.K B.FA Z H E σ Fs ∧ ev B.Φ e E = some (x, E') ∧
  ∀ v H' Z' Fd Fs', Pe B.K B.FA (wr e) (pr e) Z H E Fs σ x E' v Z' H' Fd Fs' → Q v H'
def SX (B : Bk) (e : Ex) : TE := fun σ H Q => ∃ Z E Fs x E', Stt B.K B.FA Z H E σ Fs ∧ ev B.Φ e E = some (x, E') ∧
  ∀ v H' Z' Fd Fs', Pe B.K B.FA (wrx e) none Z H E Fs σ (esc e x E').1 (esc e x E').2 v Z' H' Fd Fs' → Q v H'
def ST (B : Bk) (e : Ex) : TT := fun σ H Q => ∃ Z E Fs k w E', Stt B.K B.FA Z H E σ Fs ∧ ev B.Φ e E = some ((.bl k, w), E') ∧
  ∀ H' Z' Fs', Stt B.K B.FA Z' H' E' σ Fs' → Chg (wr e) Z H E Fs Z' H' E' Fs' → Q k H'
theorem se_x {B : Bk} {e : Ex} {σ H Q} (h : SX B e σ H Q) : SE B e σ H Q := by
  obtain ⟨Z, E, Fs, x, E', st, he, k⟩ := h
  refine ⟨Z, E, Fs, x, E', st, he, fun v H' Z' Fd Fs' p => ?_⟩
  obtain ⟨Z2, Fd2, Fs2, q⟩ := p.esc
  exact k v H' Z2 Fd2 Fs2 q

section
variable {X : Cx} {B : Bk} {pos : Pos}
/-! ### leaves -/
theorem se_leaf {e : Ex} {v : V} {d : D} {σ H Q} (hp : isPl e = false) (hev : ∀ E x E', ev B.Φ e E = some (x, E') → x = (d, .deep) ∧ E' = E) (hr : ∀ Z H, R B.K B.FA Z H .deep d v []) (h : SE B e σ H Q) : Q v H := by
  obtain ⟨Z, E, Fs, x, E', st, he, k⟩ := h
  obtain ⟨rfl, rfl⟩ := hev E x E' he
  exact k v H Z [] Fs ⟨st, Chg.refl _ _ _ _ _, hr _ _, fun _ => ⟨by simpa using st.nd, fun _ h => (by cases h), fun _ h => (by cases h)⟩, fun _ _ z => by simp [pr, hp] at z⟩
theorem sx_int {i j} : PE X (.Constant (.int i) j pos) (SE B (.int i)) :=
  pe_int.imp fun σ H Q h => se_leaf (d := .int i) rfl (fun E x E' e => by simp [ev] at e; exact ⟨e.1.symm, e.2.symm⟩) (fun _ _ => ⟨rfl, rfl⟩) h
theorem sx_bl {b j} : PE X (.Constant (.bool b) j pos) (SE B (.bl b)) :=
  pe_bl.imp fun σ H Q h => se_leaf (d := .bl b) rfl (fun E x E' e => by simp [ev] at e; exact ⟨e.1.symm, e.2.symm⟩) (fun _ _ => ⟨rfl, rfl⟩) h
theorem sx_non {j} : PE X (.Constant .none j pos) (SE B .non) :=
  pe_non.imp fun σ H Q h => se_leaf (d := .non) rfl (fun E x E' e => by simp [ev] at e; exact ⟨e.1.symm, e.2.symm⟩) (fun _ _ => ⟨rfl, rfl⟩) h
theorem sx_str {x : Str} {j} (hl : x.length ≤ line) (hk : PyData.strOk x = true) : PE X (.Constant (.str x) j pos) (SE B (.str x)) :=
  pe_str.imp fun σ H Q h => se_leaf (d := .str x) rfl (fun E x E' e => by simp [ev] at e; exact ⟨e.1.symm, e.2.symm⟩) (fun _ _ => ⟨⟨rfl, hl, hk⟩, rfl⟩) h
/-- a module's constant -/
theorem sx_glo {x : Str} {d : D} {v : V} {u : Value} (hg : Gl X x) (hm : X.mg x = some u) (rv : RelV v u) (hr : ∀ Z H, R B.K B.FA Z H .deep d v []) (hd : (x == ("__debug__" : Str)) = false := by decide) : PE X (.Name x pos) (SE B (.glo d)) :=
  (pe_glob hg hm rv hd).imp fun σ H Q h => se_leaf (d := d) rfl (fun E x E' e => by simp [ev] at e; exact ⟨e.1.symm, e.2.symm⟩) hr h
theorem sx_var {i : Nat} {x : Str} (hN : X.N[i]? = some x) (hv : Vis X.env.scope x) (hd : (x == ("__debug__" : Str)) = false := by decide) (hcd : (x == ("__classdict__" : Str)) = false := by decide) : PE X (.Name x pos) (SE B (.var i)) := by
  refine (pe_var hN hv hd hcd).imp fun σ H Q h => ?_
  obtain ⟨Z, E, Fs, x, E', st, he, k⟩ := h
  unfold ev at he
  cases e : E[i]? with
  | none => rw [e] at he; cases he
  | some o =>
    rw [e] at he
    cases o with
    | none => cases he
    | some y =>
      simp only [Option.some.injEq, Prod.mk.injEq] at he
      obtain ⟨rfl, rfl⟩ := he
      obtain ⟨v, hv, ro⟩ := st.re.get e
      cases v with
      | none => exact ro.elim
      | some v =>
        exact ⟨v, hv, k v H Z _ Fs ⟨st, Chg.refl _ _ _ _ _, ro, fun z => (by simp [pr] at z), fun j b z => by
          simp [pr, isIx] at z
          obtain ⟨rfl, rfl⟩ := z
          exact ⟨fun a ha => ha, fun _ => ⟨by rw [List.getD_eq_getElem?_getD, e]; rfl, rfl⟩⟩⟩⟩

/-! ### one operand, two operands: a plain answer -/
def Ok1 (B : Bk) (f : D → Option D) (r : V → Hp → VK → Prop) : Prop := ∀ d d' v w F Z H Q, Sub Z H → R B.K B.FA Z H w d v F → f d = some d' → (∀ u, (∀ w, R B.K B.FA Z H w d' u []) → Q u H) → r v H Q
def Ok2 (B : Bk) (f : D → D → Option D) (r : R2) : Prop := ∀ a b d' v u w w' F F' Z H Q, Sub Z H → R B.K B.FA Z H w a v F → R B.K B.FA Z H w' b u F' → f a b = some d' → (∀ u, (∀ w, R B.K B.FA Z H w d' u []) → Q u H) → r v u H Q
theorem se1 {o : Op1} {a : Ex} {r : V → Hp → VK → Prop} (hr : Ok1 B (app1 o) r) {σ H Q} (h : SE B (.op1 o a) σ H Q) : SE B a σ H fun v H1 => r v H1 Q := by
  obtain ⟨Z, E, Fs, x, E', st, he, k⟩ := h
  simp only [ev, Option.bind_eq_bind, Option.bind_eq_some_iff, Prod.exists] at he
  obtain ⟨y, w, E1, h1, d, h2, e⟩ := he
  simp only [Option.some.injEq, Prod.mk.injEq] at e
  obtain ⟨rfl, rfl⟩ := e
  refine ⟨Z, E, Fs, (y, w), E1, st, h1, fun v H1 Z1 Fd Fs1 p => ?_⟩
  refine hr _ _ v _ _ _ H1 Q p.st.sub p.val h2 fun u hu => ?_
  exact k u H1 Z1 [] Fs1 (p.plain hu)
theorem st1 {o : Op1} {a : Ex} {r : V → Hp → VK → Prop} (hr : Ok1 B (app1 o) r) {σ H Q} (h : ST B (.op1 o a) σ H Q) : SE B a σ H fun v H1 => r v H1 fun x H' => ∃ k, x = .bl k ∧ Q k H' := by
  obtain ⟨Z, E, Fs, c, w, E', st, he, k⟩ := h
  refine se1 hr ⟨Z, E, Fs, _, E', st, he, fun v H' Z' Fd Fs' p => ⟨c, p.val.1, k H' Z' Fs' p.st p.ch⟩⟩
theorem brw_ok {a : Ex} {w : List Nat} {x : Val} (h : brw a w x = true) : ∀ i b, pr a = some (i, b) → plain x.1 = true ∨ i ∉ w := by
  intro i b e
  unfold pr at e
  cases hp : isPl a with
  | false => rw [hp] at e; cases e
  | true =>
    rw [hp] at e
    simp only [if_true, Option.some.injEq, Prod.mk.injEq] at e
    obtain ⟨rfl, rfl⟩ := e
    unfold brw at h
    simp only [hp, Bool.not_true, Bool.false_or, Bool.or_eq_true, Bool.not_eq_true', List.contains_eq_mem, decide_eq_false_iff_not] at h
    exact h
theorem se2 {o : Op2} {a b : Ex} {r : R2} (hr : Ok2 B (app2 o) r) {σ H Q} (h : SE B (.op2 o a b) σ H Q) : tOp r (SE B a) (SE B b) σ H Q := by
  obtain ⟨Z, E, Fs, x, E', st, he, k⟩ := h
  simp only [ev, Option.bind_eq_bind, Option.bind_eq_some_iff, Prod.exists] at he
  obtain ⟨y, w, E1, h1, he⟩ := he
  by_cases hb : brw a (wr b) (y, w) = true
  · rw [if_pos hb] at he
    simp only [Option.bind_eq_some_iff, Prod.exists] at he
    obtain ⟨z, w', E2, h2, d, h3, e⟩ := he
    simp only [Option.some.injEq, Prod.mk.injEq] at e
    obtain ⟨rfl, rfl⟩ := e
    refine ⟨Z, E, Fs, (y, w), E1, st, h1, fun v H1 Z1 F1 Fs1 p => ?_⟩
    refine ⟨Z1, E1, Fs1, (z, w'), E2, p.st, h2, fun u H2 Z2 F2 Fs2 q => ?_⟩
    obtain ⟨_, kr⟩ := p.keep q.ch (brw_ok hb)
    refine hr _ _ _ v u _ _ _ _ _ H2 Q q.st.sub kr q.val h3 fun t ht => ?_
    exact k t H2 Z2 [] Fs2 ((p.trans q).plain ht)
  · rw [if_neg hb] at he
    cases he
theorem st2 {o : Op2} {a b : Ex} {r : R2} (hr : Ok2 B (app2 o) r) {σ H Q} (h : ST B (.op2 o a b) σ H Q) : tTest (tOp r (SE B a) (SE B b)) σ H Q := by
  obtain ⟨Z, E, Fs, c, w, E', st, he, k⟩ := h
  refine se2 hr (Q := fun x H' => ∃ k, x = .bl k ∧ Q k H') ⟨Z, E, Fs, _, E', st, he, fun v H' Z' Fd Fs' p => ⟨c, p.val.1, k H' Z' Fs' p.st p.ch⟩⟩
variable {ea eb ec : Expr} {a b c : Ex}
theorem sx_bin {o : Op2} {op : Operator} {r : R2} (ho : OpR X (binaryOp op) r) (hr : Ok2 B (app2 o) r) (ha : PE X ea (SE B a)) (hb : PE X eb (SE B b)) : PE X (.BinOp ea op eb pos) (SE B (.op2 o a b)) :=
  (pe_op ho ha hb).imp fun _ _ _ h => se2 hr h
theorem sx_un {o : Op1} {op : UnaryOp} {r : V → Hp → VK → Prop} (ho : UnR X (unaryOp op) r) (hr : Ok1 B (app1 o) r) (ha : PE X ea (SE B a)) : PE X (.UnaryOp op ea pos) (SE B (.op1 o a)) :=
  (pe_un ho ha).imp fun _ _ _ h => se1 hr h
theorem sx_cmp {o : Op2} {op : CmpOp} {r : R2} (ho : OpR X (compareOp op) r) (hr : Ok2 B (app2 o) r) (ha : PE X ea (SE B a)) (hb : PE X eb (SE B b)) (hm : behindInMarks op eb = false) : PE X (.Compare ea [op] [eb] pos) (SE B (.op2 o a b)) :=
  (pe_cmpR ho ha hb hm).imp fun _ _ _ h => se2 hr h
theorem sp_cmp {o : Op2} {op : CmpOp} {r : R2} (ho : OpR X (compareOp op) r) (hr : Ok2 B (app2 o) r) (ha : PE X ea (SE B a)) (hb : PE X eb (SE B b)) (hm : behindInMarks op eb = false) : PT X (.Compare ea [op] [eb] pos) (ST B (.op2 o a b)) :=
  (pt_cmpR ho ha hb hm).imp fun _ _ _ h => st2 hr h
/-- a value as a test -/
theorem sp_val {e : Expr} (h : PE X e (SE B a)) (he : ∀ whole, isTrue e X.env whole = (do let v ← whole; standAt e.pos; holding [v] (truthy v)) := by intro _; rfl) : PT X e (ST B a) := by
  refine (pt_val h he).imp fun σ H Q h => ?_
  obtain ⟨Z, E, Fs, c, w, E', st, he, k⟩ := h
  exact ⟨Z, E, Fs, _, E', st, he, fun v H' Z' Fd Fs' p => ⟨c, p.val.1, k H' Z' Fs' p.st p.ch⟩⟩

/-! ### and, or, not -/
theorem ev_and {Φ : Phi} {E E' : En} {x : Val} (h : ev Φ (.and a b) E = some (x, E')) : ∃ k w E1, ev Φ a E = some ((.bl k, w), E1) ∧ if k = true then ∃ c w, ev Φ b E1 = some ((.bl c, w), E') ∧ x = (.bl c, .deep) else E' = E1 ∧ x = (.bl false, .deep) := by
  simp only [ev, Option.bind_eq_bind, Option.bind_eq_some_iff, Prod.exists] at h
  obtain ⟨y, w, E1, h1, h⟩ := h
  cases y with
  | bl k =>
    cases k with
    | true =>
      simp only [Option.bind_eq_some_iff, Prod.exists] at h
      obtain ⟨z, w2, E2, h2, h⟩ := h
      cases z with
      | bl c =>
        simp only [Option.some.injEq, Prod.mk.injEq] at h
        exact ⟨true, w, E1, h1, by simp only [if_true]; exact ⟨c, w2, by rw [h2, h.2], h.1.symm⟩⟩
      | _ => cases h
    | false =>
      simp only [Option.some.injEq, Prod.mk.injEq] at h
      exact ⟨false, w, E1, h1, by simp only [Bool.false_eq_true, if_false]; exact ⟨h.2.symm, h.1.symm⟩⟩
  | _ => cases h
theorem ev_or {Φ : Phi} {E E' : En} {x : Val} (h : ev Φ (.or a b) E = some (x, E')) : ∃ k w E1, ev Φ a E = some ((.bl k, w), E1) ∧ if k = true then E' = E1 ∧ x = (.bl true, .deep) else ∃ c w, ev Φ b E1 = some ((.bl c, w), E') ∧ x = (.bl c, .deep) := by
  simp only [ev, Option.bind_eq_bind, Option.bind_eq_some_iff, Prod.exists] at h
  obtain ⟨y, w, E1, h1, h⟩ := h
  cases y with
  | bl k =>
    cases k with
    | false =>
      simp only [Option.bind_eq_some_iff, Prod.exists] at h
      obtain ⟨z, w2, E2, h2, h⟩ := h
      cases z with
      | bl c =>
        simp only [Option.some.injEq, Prod.mk.injEq] at h
        exact ⟨false, w, E1, h1, by simp only [Bool.false_eq_true, if_false]; exact ⟨c, w2, by rw [h2, h.2], h.1.symm⟩⟩
      | _ => cases h
    | true =>
      simp only [Option.some.injEq, Prod.mk.injEq] at h
      exact ⟨true, w, E1, h1, by simp only [if_true]; exact ⟨h.2.symm, h.1.symm⟩⟩
  | _ => cases h
theorem tA {σ H Q} (h : ST B (.and a b) σ H Q) : tAnd (ST B a) (ST B b) σ H Q := by
  obtain ⟨Z, E, Fs, c, w, E', st, he, k⟩ := h
  obtain ⟨ka, wa, E1, h1, h2⟩ := ev_and he
  refine ⟨Z, E, Fs, ka, wa, E1, st, h1, fun H1 Z1 Fs1 s1 c1 => ?_⟩
  cases ka with
  | true =>
    simp only [if_true] at h2 ⊢
    obtain ⟨c', w', h2, e⟩ := h2
    simp only [Prod.mk.injEq, D.bl.injEq] at e
    obtain ⟨rfl, rfl⟩ := e
    exact ⟨Z1, E1, Fs1, _, _, E', s1, h2, fun H2 Z2 Fs2 s2 c2 => k H2 Z2 Fs2 s2 (c1.trans c2)⟩
  | false =>
    simp only [Bool.false_eq_true, if_false] at h2 ⊢
    obtain ⟨rfl, e⟩ := h2
    simp only [Prod.mk.injEq, D.bl.injEq] at e
    obtain ⟨rfl, rfl⟩ := e
    exact k H1 Z1 Fs1 s1 (c1.mono fun i h => List.mem_append_left _ h)
theorem tO {σ H Q} (h : ST B (.or a b) σ H Q) : tOr (ST B a) (ST B b) σ H Q := by
  obtain ⟨Z, E, Fs, c, w, E', st, he, k⟩ := h
  obtain ⟨ka, wa, E1, h1, h2⟩ := ev_or he
  refine ⟨Z, E, Fs, ka, wa, E1, st, h1, fun H1 Z1 Fs1 s1 c1 => ?_⟩
  cases ka with
  | false =>
    simp only [Bool.false_eq_true, if_false] at h2 ⊢
    obtain ⟨c', w', h2, e⟩ := h2
    simp only [Prod.mk.injEq, D.bl.injEq] at e
    obtain ⟨rfl, rfl⟩ := e
    exact ⟨Z1, E1, Fs1, _, _, E', s1, h2, fun H2 Z2 Fs2 s2 c2 => k H2 Z2 Fs2 s2 (c1.trans c2)⟩
  | true =>
    simp only [if_true] at h2 ⊢
    obtain ⟨rfl, e⟩ := h2
    simp only [Prod.mk.injEq, D.bl.injEq] at e
    obtain ⟨rfl, rfl⟩ := e
    exact k H1 Z1 Fs1 s1 (c1.mono fun i h => List.mem_append_left _ h)
variable {rest : List Expr}
theorem sw_one {op : BoolOp} (ha : PT X ea (ST B a)) : PW X (.BoolOp op [ea] pos) (ST B a) := by
  cases op
  · exact pw_and1 ha
  · exact pw_or1 ha
theorem sw_and (ha : PT X ea (ST B a)) (hb : PW X (.BoolOp .And (eb :: rest) pos) (ST B b)) : PW X (.BoolOp .And (ea :: eb :: rest) pos) (ST B (.and a b)) := (pw_and ha hb).imp fun _ _ _ => tA
theorem sw_or (ha : PT X ea (ST B a)) (hb : PW X (.BoolOp .Or (eb :: rest) pos) (ST B b)) : PW X (.BoolOp .Or (ea :: eb :: rest) pos) (ST B (.or a b)) := (pw_or ha hb).imp fun _ _ _ => tO
theorem sp_not (ha : PT X ea (ST B a)) : PT X (.UnaryOp .Not ea pos) (ST B (.op1 .not a)) := by
  refine (pt_not ha).imp fun σ H Q h => ?_
  obtain ⟨Z, E, Fs, c, w, E', st, he, k⟩ := h
  simp only [ev, Option.bind_eq_bind, Option.bind_eq_some_iff, Prod.exists] at he
  obtain ⟨y, w', E1, h1, d, h2, e⟩ := he
  simp only [Option.some.injEq, Prod.mk.injEq] at e
  obtain ⟨⟨rfl, rfl⟩, rfl⟩ := e
  cases y with
  | bl k' =>
    simp only [app1, Option.some.injEq, D.bl.injEq] at h2
    subst h2
    exact ⟨Z, E, Fs, k', w', E1, st, h1, fun H1 Z1 Fs1 s1 c1 => k H1 Z1 Fs1 s1 c1⟩
  | _ => simp [app1] at h2
/- .. as values -/
theorem vA {σ H Q} (h : SE B (.and a b) σ H Q) : tAndV (SE B a) (SE B b) σ H Q := by
  obtain ⟨Z, E, Fs, x, E', st, he, k⟩ := h
  obtain ⟨ka, wa, E1, h1, h2⟩ := ev_and he
  refine ⟨Z, E, Fs, _, E1, st, h1, fun v H1 Z1 F1 Fs1 p => ⟨ka, p.val.1, ?_⟩⟩
  cases ka with
  | true =>
    simp only [if_true] at h2 ⊢
    obtain ⟨c', w', h2, rfl⟩ := h2
    exact ⟨Z1, E1, Fs1, _, E', p.st, h2, fun u H2 Z2 F2 Fs2 q => k u H2 Z2 [] Fs2 (((p.trans q).plain fun w => ⟨q.val.1, rfl⟩))⟩
  | false =>
    simp only [Bool.false_eq_true, if_false] at h2 ⊢
    obtain ⟨rfl, rfl⟩ := h2
    exact k _ H1 Z1 [] Fs1 ((p.plain (d := .bl false) (u := .bl false) fun w => ⟨rfl, rfl⟩).mono fun i h => List.mem_append_left _ h)
theorem vO {σ H Q} (h : SE B (.or a b) σ H Q) : tOrV (SE B a) (SE B b) σ H Q := by
  obtain ⟨Z, E, Fs, x, E', st, he, k⟩ := h
  obtain ⟨ka, wa, E1, h1, h2⟩ := ev_or he
  refine ⟨Z, E, Fs, _, E1, st, h1, fun v H1 Z1 F1 Fs1 p => ⟨ka, p.val.1, ?_⟩⟩
  cases ka with
  | false =>
    simp only [Bool.false_eq_true, if_false] at h2 ⊢
    obtain ⟨c', w', h2, rfl⟩ := h2
    exact ⟨Z1, E1, Fs1, _, E', p.st, h2, fun u H2 Z2 F2 Fs2 q => k u H2 Z2 [] Fs2 (((p.trans q).plain fun w => ⟨q.val.1, rfl⟩))⟩
  | true =>
    simp only [if_true] at h2 ⊢
    obtain ⟨rfl, rfl⟩ := h2
    exact k _ H1 Z1 [] Fs1 ((p.plain (d := .bl true) (u := .bl true) fun w => ⟨rfl, rfl⟩).mono fun i h => List.mem_append_left _ h)
theorem sx_and (ha : PE X ea (SE B a)) (hb : PE X (.BoolOp .And (eb :: rest) pos) (SE B b)) : PE X (.BoolOp .And (ea :: eb :: rest) pos) (SE B (.and a b)) := (pe_and ha hb).imp fun _ _ _ => vA
theorem sx_or (ha : PE X ea (SE B a)) (hb : PE X (.BoolOp .Or (eb :: rest) pos) (SE B b)) : PE X (.BoolOp .Or (ea :: eb :: rest) pos) (SE B (.or a b)) := (pe_or ha hb).imp fun _ _ _ => vO
theorem sx_one {op : BoolOp} (ha : PE X ea (SE B a)) : PE X (.BoolOp op [ea] pos) (SE B a) := pe_one ha
theorem sx_not (ha : PE X ea (SE B a)) : PE X (.UnaryOp .Not ea pos) (SE B (.op1 .not a)) := by
  refine (pe_not ha).imp fun σ H Q h => ?_
  refine se1 (r := fun x H1 Q => ∃ c, x = .bl c ∧ Q (.bl (!c)) H1) (fun d d' v w F Z H Q hs hr he k => ?_) h
  cases d with
  | bl c =>
    simp only [app1, Option.some.injEq] at he
    subst he
    exact ⟨c, hr.1, k _ fun w => ⟨rfl, rfl⟩⟩
  | _ => simp [app1] at he
end
end BS

set_option Elab.async false
set_option linter.all false
set_option maxRecDepth 100000
set_option maxHeartbeats 1000000
namespace BS
open PySem PySem.Spec PyProof.Rows L2
section
variable {K : PySem.W.Frag} {FA : Nat → Addr → Prop} {Z Z' H H' : Hp} {E E' : En} {Fs Fs' : List (List Addr)} {σ : Sl} {w : List Nat} {p : Addr}
theorem upd_keep {o : HO} (hp : H p = none) : ∀ a u, H a = some u → upd H p o a = some u := fun a u h => by rw [upd_ne (ne_of_none h hp)]; exact h
theorem Sub.none (s : Sub Z H) (hp : H p = none) : Z p = none := by
  cases e : Z p with
  | none => rfl
  | some u => rcases s p u e with z | ⟨_, o, z⟩ <;> · rw [hp] at z; cases z
/-- a new object, our own -/
theorem Stt.laid {o : HO} (st : Stt K FA Z H E σ Fs) (hp : H p = none) : Stt K FA Z (upd H p o) E σ Fs :=
  ⟨fun a u e => by
      rcases st.sub a u e with z | ⟨z, q, y⟩
      · exact .inl (upd_keep hp a u z)
      · exact .inr ⟨z, q, upd_keep hp a _ y⟩,
    RE.keep (Le.refl Z) (fun a ha => upd_ne fun z => st.re.there ha (z ▸ hp)) st.re, st.nd, st.zf⟩
theorem Chg.laid {o : HO} (c : Chg w Z H E Fs Z' H' E' Fs') (hp : H' p = none) : Chg w Z H E Fs Z' (upd H' p o) E' Fs' :=
  ⟨c.le, c.zn, c.fr, fun a u h n => upd_keep hp a u (c.frame a u h n), fun a h => by
    by_cases e : a = p
    · subst e; rw [upd_same]; exact fun z => by cases z
    · rw [upd_ne e]; exact c.there a h, c.same⟩
/-- .. that never changes -/
theorem Stt.laidZ {o : HO} (st : Stt K FA Z H E σ Fs) (hp : H p = none) : Stt K FA (upd Z p o) (upd H p o) E σ Fs := by
  have zp := st.sub.none hp
  have s := st.laid (o := o) hp
  refine ⟨fun a u e => ?_, RE.keep (upd_keep zp) (fun _ _ => rfl) s.re, s.nd, fun a ha => ?_⟩
  · by_cases q : a = p
    · subst q; rw [upd_same] at e ⊢; exact .inl e
    · rw [upd_ne q] at e; exact s.sub a u e
  · rw [upd_ne (show a ≠ p from fun z => st.re.there ha (z ▸ hp))]; exact s.zf a ha
theorem Chg.laidZ {o : HO} (c : Chg w Z H E Fs Z' H' E' Fs') (s : Sub Z' H') (hp : H' p = none) : Chg w Z H E Fs (upd Z' p o) (upd H' p o) E' Fs' := by
  have zp := s.none hp
  have q := c.laid (o := o) hp
  refine ⟨c.le.trans (upd_keep zp), fun a u e => ?_, q.fr, q.frame, q.there, q.same⟩
  by_cases y : a = p
  · subst y; exact .inr (.inr (c.free hp))
  · rw [upd_ne y] at e; exact c.zn a u e
/-- S, nobody's, is given to all -/
theorem Stt.zadd {S : List Addr} (st : Stt K FA Z H E σ Fs) (z : ∀ a ∈ S, Z a = none) (d : ∀ a ∈ S, a ∉ Fs.flatten) : Stt K FA (zadd Z H S) H E σ Fs :=
  ⟨zadd_sub st.sub, RE.keep (zadd_le z) (fun _ _ => rfl) st.re, st.nd, fun a ha => by rw [zadd_out fun q => d a q ha]; exact st.zf a ha⟩
theorem Chg.zadd {S : List Addr} (c : Chg w Z H E Fs Z' H' E' Fs') (z : ∀ a ∈ S, Z' a = none) (f : ∀ a ∈ S, H a = none ∨ WC Fs w a) : Chg w Z H E Fs (zadd Z' H' S) H' E' Fs' := by
  refine ⟨c.le.trans (zadd_le z), fun a u e => ?_, c.fr, c.frame, c.there, c.same⟩
  by_cases m : a ∈ S
  · rcases f a m with y | y
    · exact .inr (.inr y)
    · exact .inr (.inl y.flat)
  · rw [zadd_out m] at e; exact c.zn a u e

/-! ### several values -/
abbrev RL (K : PySem.W.Frag) (FA : Nat → Addr → Prop) (Z H : Hp) (xs : List Val) (vs : List V) (Fds : List (List Addr)) : Prop := RE K FA Z H (xs.map some) (vs.map some) Fds
structure Pes (K : PySem.W.Frag) (FA : Nat → Addr → Prop) (w : List Nat) (Z H : Hp) (E : En) (Fs : List (List Addr)) (σ : Sl) (xs : List Val) (E' : En) (vs : List V) (Z' H' : Hp) (Fds Fs' : List (List Addr)) : Prop where
  st : Stt K FA Z' H' E' σ Fs'
  ch : Chg w Z H E Fs Z' H' E' Fs'
  val : RL K FA Z' H' xs vs Fds
  nd : (Fds.flatten ++ Fs'.flatten).Nodup
  zf : ∀ a ∈ Fds.flatten, Z' a = none
  fd : ∀ a ∈ Fds.flatten, H a = none ∨ WC Fs w a
theorem RL.length {xs : List Val} {vs : List V} {Fds : List (List Addr)} (h : RL K FA Z H xs vs Fds) : vs.length = xs.length := by
  have := (RE.length h).1
  simp at this
  exact this.symm
theorem RL_deep : ∀ {xs : List Val} {vs : List V} {Fds : List (List Addr)}, RL K FA Z H xs vs Fds → allDeep xs = true → Rs K FA Z H .deep (ds xs) vs Fds.flatten
  | [], [], [], _, _ => ⟨rfl, rfl⟩
  | x :: xs, v :: vs, F :: Fds, h, a => by
    simp only [allDeep, Bool.and_eq_true, Bool.or_eq_true, decide_eq_true_eq] at a
    refine ⟨v, vs, F, Fds.flatten, rfl, ?_, RL_deep h.2 a.2, by rw [List.flatten_cons]⟩
    have h1 : R K FA Z H x.2 x.1 v F := h.1
    rcases a.1 with q | q
    · obtain ⟨e, k⟩ := R_plain _ q h1
      rw [e]
      exact k _ _
    · rw [q] at h1
      exact h1
  | [], [], _ :: _, h, _ => h.elim
  | [], _ :: _, _, h, _ => h.elim
  | _ :: _, [], _, h, _ => h.elim
  | _ :: _, _ :: _, [], h, _ => h.elim
theorem RL_share (hz : Le Z Z') : ∀ {xs : List Val} {vs : List V} {Fds : List (List Addr)}, RL K FA Z H xs vs Fds → (∀ a ∈ Fds.flatten, Z' a = H a) → Rs K FA Z' H' .sh (ds xs) vs []
  | [], [], [], _, _ => ⟨rfl, rfl⟩
  | x :: xs, v :: vs, F :: Fds, h, a => by
    rw [List.flatten_cons] at a
    exact ⟨v, vs, [], [], rfl, R_share hz _ (fun b hb => a b (List.mem_append_left _ hb)) (show R K FA Z H x.2 x.1 v F from h.1), RL_share hz h.2 fun b hb => a b (List.mem_append_right _ hb), rfl⟩
  | [], [], _ :: _, h, _ => h.elim
  | [], _ :: _, _, h, _ => h.elim
  | _ :: _, [], _, h, _ => h.elim
  | _ :: _, _ :: _, [], h, _ => h.elim
section
variable {xs : List Val} {vs : List V} {Fds : List (List Addr)}
theorem Pes.shared (q : Pes K FA w Z H E Fs σ xs E' vs Z' H' Fds Fs') :
    Stt K FA (BS.zadd Z' H' Fds.flatten) H' E' σ Fs' ∧ Chg w Z H E Fs (BS.zadd Z' H' Fds.flatten) H' E' Fs' ∧ Rs K FA (BS.zadd Z' H' Fds.flatten) H' .sh (ds xs) vs [] :=
  ⟨q.st.zadd q.zf fun a ha hb => (List.nodup_append.mp q.nd).2.2 a ha a hb rfl, q.ch.zadd q.zf q.fd, RL_share (zadd_le q.zf) q.val fun a ha => zadd_in ha⟩
theorem Pes.none_new (q : Pes K FA w Z H E Fs σ xs E' vs Z' H' Fds Fs') (hp : H' p = none) : ∀ a ∈ Fds.flatten, a ≠ p := fun a ha z => RE.there q.val ha (z ▸ hp)
/-- a tuple of them -/
theorem Pes.tup (q : Pes K FA w Z H E Fs σ xs E' vs Z' H' Fds Fs') (hp : H' p = none) :
    ∃ Z'' Fd'', Pe K FA w none Z H E Fs σ (mkTup xs) E' (.ref p) Z'' (upd H' p (.tup vs)) Fd'' Fs' := by
  unfold mkTup
  cases ad : allDeep xs with
  | true =>
    have zp := q.st.sub.none hp
    have le : Le Z' (upd Z' p (.tup vs)) := upd_keep zp
    have ne := q.none_new hp
    refine ⟨upd Z' p (.tup vs), Fds.flatten, q.st.laidZ hp, q.ch.laidZ q.st.sub hp, R_vl ⟨p, vs, rfl, upd_same, Rs_keep le _ (fun a ha => upd_ne (ne a ha)) (RL_deep q.val ad)⟩, fun _ => ⟨q.nd, fun a ha => ?_, q.fd⟩, fun _ _ z => (by cases z)⟩
    rw [upd_ne (ne a ha)]
    exact q.zf a ha
  | false =>
    obtain ⟨s, c, r⟩ := q.shared
    have zp := s.sub.none hp
    have le : Le (BS.zadd Z' H' Fds.flatten) (upd (BS.zadd Z' H' Fds.flatten) p (.tup vs)) := upd_keep zp
    exact ⟨upd (BS.zadd Z' H' Fds.flatten) p (.tup vs), [], s.laidZ hp, c.laidZ s.sub hp, R_vl ⟨p, vs, rfl, upd_same, Rs_keep le _ (fun _ m => (by cases m)) r⟩, fun _ => ⟨by simpa using s.nd, fun _ m => (by cases m), fun _ m => (by cases m)⟩, fun _ _ z => (by cases z)⟩
/-- a list of them -/
theorem Pes.lst (q : Pes K FA w Z H E Fs σ xs E' vs Z' H' Fds Fs') (hp : H' p = none) :
    ∃ Z'' Fd'', Pe K FA w none Z H E Fs σ (mkLst xs) E' (.ref p) Z'' (upd H' p (.lst vs)) Fd'' Fs' := by
  unfold mkLst
  have fresh : H p = none := q.ch.free hp
  cases ad : allDeep xs with
  | true =>
    have ne := q.none_new hp
    refine ⟨Z', p :: Fds.flatten, q.st.laid hp, q.ch.laid hp, ⟨p, vs, Fds.flatten, rfl, upd_same, Rs_keep (Le.refl _) _ (fun a ha => upd_ne (ne a ha)) (RL_deep q.val ad), rfl⟩, fun _ => ⟨?_, fun a ha => ?_, fun a ha => ?_⟩, fun _ _ z => (by cases z)⟩
    · refine List.nodup_cons.mpr ⟨fun m => ?_, q.nd⟩
      rcases List.mem_append.mp m with m | m
      · exact ne p m rfl
      · exact q.st.re.there m hp
    · rcases List.mem_cons.mp ha with rfl | ha
      · exact q.st.sub.none hp
      · exact q.zf a ha
    · rcases List.mem_cons.mp ha with rfl | ha
      · exact .inl fresh
      · exact q.fd a ha
  | false =>
    obtain ⟨s, c, r⟩ := q.shared
    refine ⟨BS.zadd Z' H' Fds.flatten, [p], s.laid hp, c.laid hp, ⟨p, vs, [], rfl, upd_same, Rs_keep (Le.refl _) _ (fun _ m => (by cases m)) r, rfl⟩, fun _ => ⟨?_, fun a ha => ?_, fun a ha => ?_⟩, fun _ _ z => (by cases z)⟩
    · refine List.nodup_cons.mpr ⟨fun m => s.re.there m hp, s.nd⟩
    · rcases List.mem_cons.mp ha with rfl | ha
      · exact s.sub.none hp
      · cases ha
    · rcases List.mem_cons.mp ha with rfl | ha
      · exact .inl fresh
      · cases ha
end
end

/-! ### arguments, displays -/
def SXs (B : Bk) (es : List Ex) : TA := fun σ H Q => ∃ Z E Fs xs E', Stt B.K B.FA Z H E σ Fs ∧ evs B.Φ es E = some (xs, E') ∧
  ∀ vs H' Z' Fds Fs', Pes B.K B.FA (wrs es) Z H E Fs σ xs E' vs Z' H' Fds Fs' → Q vs H'
section
variable {X : Cx} {B : Bk} {pos : Pos} {e : Expr} {es : List Expr} {a : Ex} {as : List Ex}
theorem sa_nil : PA X [] (SXs B []) := by
  refine pa_nil.imp fun σ H Q h => ?_
  obtain ⟨Z, E, Fs, xs, E', st, he, k⟩ := h
  simp only [evs, Option.some.injEq, Prod.mk.injEq] at he
  obtain ⟨rfl, rfl⟩ := he
  exact k [] H Z [] Fs ⟨st, Chg.refl _ _ _ _ _, trivial, by simpa using st.nd, fun _ m => (by simp at m), fun _ m => (by simp at m)⟩
theorem evs_cons {Φ : Phi} {E E' : En} {xs : List Val} (h : evs Φ (a :: as) E = some (xs, E')) : ∃ x E1 ys, ev Φ a E = some (x, E1) ∧ evs Φ as (esc a x E1).2 = some (ys, E') ∧ xs = (esc a x E1).1 :: ys := by
  simp only [evs, Option.bind_eq_bind, Option.bind_eq_some_iff, Prod.exists] at h
  obtain ⟨y, w, E1, h1, ys, E2, h2, h⟩ := h
  simp only [Option.some.injEq, Prod.mk.injEq] at h
  obtain ⟨rfl, rfl⟩ := h
  exact ⟨(y, w), E1, ys, h1, h2, rfl⟩
theorem Pe.cons {K : PySem.W.Frag} {FA : Nat → Addr → Prop} {w w2 : List Nat} {Z H Z1 H1 Z2 H2 : Hp} {E E1 E2 : En} {Fs Fs1 Fs2 Fds : List (List Addr)} {σ : Sl} {x : Val} {xs : List Val} {v : V} {vs : List V} {Fd : List Addr}
    (p : Pe K FA w none Z H E Fs σ x E1 v Z1 H1 Fd Fs1) (q : Pes K FA w2 Z1 H1 E1 Fs1 σ xs E2 vs Z2 H2 Fds Fs2) : Pes K FA (w ++ w2) Z H E Fs σ (x :: xs) E2 (v :: vs) Z2 H2 (Fd :: Fds) Fs2 := by
  obtain ⟨_, kr⟩ := p.keep q.ch fun _ _ z => by cases z
  obtain ⟨a1, a2, a3⟩ := p.apart q.ch
  obtain ⟨nd, _, fd⟩ := p.ex rfl
  refine ⟨q.st, p.ch.trans q.ch, ⟨kr, q.val⟩, ?_, fun a ha => ?_, fun a ha => ?_⟩
  · rw [List.flatten_cons, List.append_assoc]
    refine List.nodup_append.mpr ⟨(List.nodup_append.mp nd).1, q.nd, fun a ha b hb => ?_⟩
    rintro rfl
    rcases List.mem_append.mp hb with z | z
    · exact a3 a ha (q.fd a z)
    · exact a1 a ha z
  · rw [List.flatten_cons] at ha
    rcases List.mem_append.mp ha with z | z
    · exact a2 a z
    · exact q.zf a z
  · rw [List.flatten_cons] at ha
    rcases List.mem_append.mp ha with z | z
    · exact (fd a z).imp id fun y => y.mono fun i hi => List.mem_append_left _ hi
    · rcases q.fd a z with y | y
      · exact .inl (p.ch.free y)
      · exact (p.ch.wc y).symm
theorem sa_cons (ha : PE X e (SE B a)) (hr : PA X es (SXs B as)) (hs : starEach (e :: es) X.env = (false, eval e X.env) :: starEach es X.env := by rfl) : PA X (e :: es) (SXs B (a :: as)) := by
  refine (pa_cons ha hr hs).imp fun σ H Q h => ?_
  obtain ⟨Z, E, Fs, xs, E', st, he, k⟩ := h
  obtain ⟨x, E1, ys, h1, h2, rfl⟩ := evs_cons he
  refine se_x ⟨Z, E, Fs, x, E1, st, h1, fun v H1 Z1 Fd Fs1 p => ⟨Z1, _, Fs1, ys, E', p.st, h2, fun vs H2 Z2 Fds Fs2 q => ?_⟩⟩
  exact k (v :: vs) H2 Z2 (Fd :: Fds) Fs2 (p.cons q)
theorem sx_tup {x1} (h : PA X es (SXs B as)) (hl : as.length ≤ 1000 := by decide) : PE X (.Tuple es x1 pos) (SE B (.tup as)) := by
  refine (pe_tup h).imp fun σ H Q h => ?_
  obtain ⟨Z, E, Fs, x, E', st, he, k⟩ := h
  simp only [ev, Option.bind_eq_bind, Option.bind_eq_some_iff, Prod.exists] at he
  obtain ⟨xs, E1, h1, h2⟩ := he
  simp only [Option.some.injEq, Prod.mk.injEq] at h2
  obtain ⟨rfl, rfl⟩ := h2
  refine ⟨Z, E, Fs, xs, E1, st, h1, fun vs H1 Z1 Fds Fs1 q => ⟨?_, fun p hp => ?_⟩⟩
  · have e1 := q.val.length
    have e2 : ∀ (l : List Ex) (E E' : En) (xs : List Val), evs B.Φ l E = some (xs, E') → xs.length = l.length := fun l => by
      induction l with
      | nil => intro E E' xs h; simp only [evs, Option.some.injEq, Prod.mk.injEq] at h; rw [← h.1]; rfl
      | cons c l ih => intro E E' xs h; obtain ⟨_, _, ys, _, h2, rfl⟩ := evs_cons h; simp [ih _ _ _ h2]
    rw [e1, e2 _ _ _ _ h1]
    exact Nat.le_trans hl (by decide)
  · obtain ⟨Z2, Fd, r⟩ := q.tup hp
    exact k _ _ Z2 Fd Fs1 r
theorem sx_lst (h : PA X es (SXs B as)) (hl : as.length ≤ 1000 := by decide) : PE X (.List es pos) (SE B (.lst as)) := by
  refine (pe_lst h).imp fun σ H Q h => ?_
  obtain ⟨Z, E, Fs, x, E', st, he, k⟩ := h
  simp only [ev, Option.bind_eq_bind, Option.bind_eq_some_iff, Prod.exists] at he
  obtain ⟨xs, E1, h1, h2⟩ := he
  simp only [Option.some.injEq, Prod.mk.injEq] at h2
  obtain ⟨rfl, rfl⟩ := h2
  refine ⟨Z, E, Fs, xs, E1, st, h1, fun vs H1 Z1 Fds Fs1 q => ⟨?_, fun p hp => ?_⟩⟩
  · have e1 := q.val.length
    have e2 : ∀ (l : List Ex) (E E' : En) (xs : List Val), evs B.Φ l E = some (xs, E') → xs.length = l.length := fun l => by
      induction l with
      | nil => intro E E' xs h; simp only [evs, Option.some.injEq, Prod.mk.injEq] at h; rw [← h.1]; rfl
      | cons c l ih => intro E E' xs h; obtain ⟨_, _, ys, _, h2, rfl⟩ := evs_cons h; simp [ih _ _ _ h2]
    rw [e1, e2 _ _ _ _ h1]
    exact Nat.le_trans hl (by decide)
  · obtain ⟨Z2, Fd, r⟩ := q.lst hp
    exact k _ _ Z2 Fd Fs1 r
end
end BS

set_option Elab.async false
set_option linter.all false
set_option maxRecDepth 100000
set_option maxHeartbeats 1000000
namespace BS
open PySem PySem.Spec PyProof.Rows L2
theorem strOk_iff {s : Str} : PyData.strOk s = true ↔ ∀ c ∈ s.cps.toList, c < 0x110000 := by
  unfold PyData.strOk
  rw [Array.all_eq_true']
  constructor
  · intro h c hc
    exact of_decide_eq_true (h c (by simpa using hc))
  · intro h c hc
    exact decide_eq_true (h c (by simpa using hc))
theorem strOk_at {s : Str} {i : Int} {c : Nat} (h : PyData.strOk s = true) (e : atI s.cps.toList i = some c) : c < 0x110000 := by
  unfold atI at e
  cases q : ixN s.cps.toList.length i with
  | none => rw [q] at e; cases e
  | some j =>
    rw [q] at e
    exact strOk_iff.mp h c (List.mem_of_getElem? e)
theorem strOk_one {c : Nat} (h : c < 0x110000) : PyData.strOk ⟨#[c]⟩ = true := strOk_iff.mpr fun d hd => by
  have : d = c := by simpa using hd
  rw [this]
  exact h
section
variable {K : PySem.W.Frag} {FA : Nat → Addr → Prop} {Z Z' H H' : Hp}
theorem Rs_len : ∀ {ds : List D} {w vs F}, Rs K FA Z H w ds vs F → vs.length = ds.length
  | [], _, _, _, h => by rw [h.1]; rfl
  | d :: ds, _, _, _, ⟨v, us, A, B, e0, h1, h2, e⟩ => by rw [e0]; simp [Rs_len h2]
theorem Rs_get : ∀ {ds : List D} {w vs F} {j : Nat} {d : D}, Rs K FA Z H w ds vs F → ds[j]? = some d → ∃ v F', vs[j]? = some v ∧ R K FA Z H w d v F' ∧ F'.Sublist F
  | [], _, _, _, _, _, _, e => by simp at e
  | c :: ds, _, _, _, 0, d, ⟨v, us, A, B, e0, h1, h2, e⟩, ed => by
    simp at ed
    subst ed
    subst e0
    subst e
    exact ⟨v, A, rfl, h1, List.sublist_append_left _ _⟩
  | c :: ds, _, _, _, j + 1, d, ⟨v, us, A, B, e0, h1, h2, e⟩, ed => by
    subst e0
    subst e
    obtain ⟨v', F', a, b, c⟩ := Rs_get (j := j) h2 (by simpa using ed)
    exact ⟨v', F', by simpa using a, b, c.trans (List.sublist_append_right _ _)⟩
theorem Rs_at {ds : List D} {w vs F} {i : Int} {d : D} (h : Rs K FA Z H w ds vs F) (e : atI ds i = some d) : ∃ v F', atI vs i = some v ∧ R K FA Z H w d v F' ∧ F'.Sublist F := by
  unfold atI at e ⊢
  rw [Rs_len h]
  cases q : ixN ds.length i with
  | none => rw [q] at e; cases e
  | some j =>
    rw [q] at e
    exact Rs_get (j := j) h e
theorem Rs_drop : ∀ {ds : List D} {w vs F} (n : Nat), Rs K FA Z H w ds vs F → ∃ F', Rs K FA Z H w (ds.drop n) (vs.drop n) F' ∧ F'.Sublist F
  | ds, w, vs, F, 0, h => ⟨F, h, List.Sublist.refl _⟩
  | [], _, vs, F, n + 1, h => by
    obtain ⟨rfl, rfl⟩ := h
    exact ⟨[], ⟨rfl, rfl⟩, List.Sublist.refl _⟩
  | d :: ds, _, _, _, n + 1, ⟨v, us, A, B, e0, h1, h2, e⟩ => by
    subst e0
    subst e
    obtain ⟨F', a, b⟩ := Rs_drop n h2
    exact ⟨F', a, b.trans (List.sublist_append_right _ _)⟩
theorem Rs_take : ∀ {ds : List D} {w vs F} (n : Nat), Rs K FA Z H w ds vs F → ∃ F', Rs K FA Z H w (ds.take n) (vs.take n) F' ∧ F'.Sublist F
  | _, _, _, F, 0, h => ⟨[], ⟨rfl, rfl⟩, List.nil_sublist _⟩
  | [], _, vs, F, n + 1, h => by
    obtain ⟨rfl, rfl⟩ := h
    exact ⟨[], ⟨rfl, rfl⟩, List.Sublist.refl _⟩
  | d :: ds, _, _, _, n + 1, ⟨v, us, A, B, e0, h1, h2, e⟩ => by
    subst e0
    subst e
    obtain ⟨F', a, b⟩ := Rs_take n h2
    exact ⟨A ++ F', ⟨v, us.take n, A, F', rfl, h1, a, rfl⟩, b.append_left A⟩
theorem Rs_app : ∀ {ds ds' : List D} {w vs vs' F F'}, Rs K FA Z H w ds vs F → Rs K FA Z H w ds' vs' F' → Rs K FA Z H w (ds ++ ds') (vs ++ vs') (F ++ F')
  | [], _, _, _, _, _, _, h, h' => by
    obtain ⟨rfl, rfl⟩ := h
    exact h'
  | d :: ds, _, _, _, _, _, _, ⟨v, us, A, B, e0, h1, h2, e⟩, h' => by
    subst e0
    subst e
    exact ⟨v, _, A, B ++ _, rfl, h1, Rs_app h2 h', by rw [List.append_assoc]⟩
/-! dicts -/
theorem keq_key {a b : D} {k l : Key} (ha : keyD a = some k) (hb : keyD b = some l) : keq a b = decide (k = l) := by
  cases a <;> simp [keyD] at ha <;> cases b <;> simp [keyD] at hb <;> subst ha <;> subst hb <;> simp [keq]
theorem keqs_key : ∀ {as bs : List D} {ks ls : List Key}, keyL as = some ks → keyL bs = some ls → keqs as bs = decide (ks = ls)
  | [], [], _, _, ha, hb => by
    simp [keyL] at ha hb
    subst ha
    subst hb
    simp [keqs]
  | [], b :: bs, _, _, ha, hb => by
    simp [keyL] at ha
    simp only [keyL] at hb
    split at hb
    · cases hb
      subst ha
      simp [keqs]
    · cases hb
  | a :: as, [], _, _, ha, hb => by
    simp [keyL] at hb
    simp only [keyL] at ha
    split at ha
    · cases ha
      subst hb
      simp [keqs]
    · cases ha
  | a :: as, b :: bs, _, _, ha, hb => by
    simp only [keyL] at ha hb
    split at ha
    · rename_i k ks e1 e2
      cases ha
      split at hb
      · rename_i l ls f1 f2
        cases hb
        simp only [keqs, keq_key e1 f1, keqs_key e2 f2, List.cons.injEq, Bool.decide_and]
      · cases hb
    · cases ha
theorem keq_keyT {a b : D} {k l : List Key} (ha : keyT a = some k) (hb : keyT b = some l) : keq a b = decide (k = l) := by
  cases a <;> simp [keyT] at ha
  cases b <;> simp [keyT] at hb
  simp only [keq]
  exact keqs_key ha hb
theorem RK_get : ∀ {kvs : List (D × D)} {w kv F} {k : D} {key : Key}, RK K FA Z H w kvs kv F → keyD k = some key → (∀ d, dget kvs k = some d → ∃ v F', valV kv key = some v ∧ R K FA Z H w d v F' ∧ F'.Sublist F) ∧ (dget kvs k = none → valV kv key = none)
  | [], _, _, _, _, _, h, hk => by
    rw [h.1]
    exact ⟨fun d e => by simp [dget] at e, fun _ => rfl⟩
  | (a, d) :: kvs, w, _, _, k, key, ⟨k0, v, us, A, C, e0, ek, h1, h2, e⟩, hk => by
    subst e0
    subst e
    have ih := RK_get (k := k) (key := key) h2 hk
    unfold dget valV
    rw [keq_key ek hk, List.find?_cons]
    by_cases q : k0 = key
    · simp only [q, decide_true, if_true]
      exact ⟨fun d' e => by cases e; exact ⟨v, A, rfl, h1, List.sublist_append_left _ _⟩, fun z => by cases z⟩
    · simp only [q, decide_false, Bool.false_eq_true, if_false]
      exact ⟨fun d' e => let ⟨v', F', x, y, z⟩ := ih.1 d' e; ⟨v', F', x, y, z.trans (List.sublist_append_right _ _)⟩, ih.2⟩
theorem RT_get : ∀ {kvs : List (D × D)} {w kv F} {k : D} {key : List Key}, RT K FA Z H w kvs kv F → keyT k = some key → (∀ d, dget kvs k = some d → ∃ v F', valV kv key = some v ∧ R K FA Z H w d v F' ∧ F'.Sublist F) ∧ (dget kvs k = none → valV kv key = none)
  | [], _, _, _, _, _, h, hk => by
    rw [h.1]
    exact ⟨fun d e => by simp [dget] at e, fun _ => rfl⟩
  | (a, d) :: kvs, w, _, _, k, key, ⟨k0, v, us, A, C, e0, ek, h1, h2, e⟩, hk => by
    subst e0
    subst e
    have ih := RT_get (k := k) (key := key) h2 hk
    unfold dget valV
    rw [keq_keyT ek hk, List.find?_cons]
    by_cases q : k0 = key
    · simp only [q, decide_true, if_true]
      exact ⟨fun d' e => by cases e; exact ⟨v, A, rfl, h1, List.sublist_append_left _ _⟩, fun z => by cases z⟩
    · simp only [q, decide_false, Bool.false_eq_true, if_false]
      exact ⟨fun d' e => let ⟨v', F', x, y, z⟩ := ih.1 d' e; ⟨v', F', x, y, z.trans (List.sublist_append_right _ _)⟩, ih.2⟩
theorem key_val {k : D} {key : Key} {w u F} (h : keyD k = some key) (r : R K FA Z H w k u F) : u = kV key := by
  cases k <;> simp [keyD] at h <;> subst h
  · exact r.1
  · exact r.1.1
theorem keyL_val : ∀ {ks : List D} {keys : List Key} {w us F}, keyL ks = some keys → Rs K FA Z H w ks us F → us = keys.map kV
  | [], _, _, _, _, h, r => by
    simp [keyL] at h
    subst h
    exact r.1
  | k :: ks, _, _, _, _, h, ⟨v, us, A, C, e0, h1, h2, e⟩ => by
    simp only [keyL] at h
    split at h
    · rename_i k0 ks0 e1 e2
      cases h
      rw [e0, key_val e1 h1, keyL_val e2 h2]
      rfl
    · cases h
theorem keyT_val {k : D} {keys : List Key} {w u F} (hs : Sub Z H) (h : keyT k = some keys) (r : R K FA Z H w k u F) : ∃ t, u = .ref t ∧ H t = some (.tup (keys.map kV)) := by
  cases k <;> simp [keyT] at h
  obtain ⟨t, vs, e, q, rs⟩ := r
  rw [keyL_val h rs] at q
  exact ⟨t, e, tup_sub hs q⟩
/-- what a dict's look-up gives -/
theorem R_dget {tt : Bool} {kvs : List (D × D)} {k : D} {w w' v u F F'} (hs : Sub Z H) (h : R K FA Z H w (.dic tt kvs) v F) (hk : keyOk tt k = true) (r : R K FA Z H w' k u F') :
    ∃ p o, v = .ref p ∧ DGet H p u o ∧ (dget kvs k = none → o = none) ∧ ∀ d, dget kvs k = some d → ∃ v' F2, o = some v' ∧ R K FA Z H (kid w) d v' F2 ∧ F2.Sublist F ∧ ∀ a ∈ F2, a ∈ F.tail ∨ w = .sh := by
  obtain ⟨p, G, e, q, ef⟩ := h
  have sub : ∀ {F2 : List Addr}, F2.Sublist G → F2.Sublist F ∧ ∀ a ∈ F2, a ∈ F.tail ∨ w = .sh := fun {F2} z => by
    rw [ef]
    cases w
    · exact ⟨z, fun a ha => .inr rfl⟩
    · exact ⟨z.trans (List.sublist_cons_self _ _), fun a ha => .inl (z.subset ha)⟩
    · exact ⟨z.trans (List.sublist_cons_self _ _), fun a ha => .inl (z.subset ha)⟩
  rcases q with ⟨et, kv, c, hn, hr⟩ | ⟨et, kv, c, hn, hr⟩
  · subst et
    simp only [keyOk, Bool.false_eq_true, if_false] at hk
    obtain ⟨key, hkey⟩ := Option.isSome_iff_exists.mp hk
    obtain ⟨g1, g2⟩ := RK_get hr hkey
    refine ⟨p, valV kv key, e, .inl ⟨kv, key, c.sub hs trivial, key_val hkey r, rfl⟩, g2, fun d hd => ?_⟩
    obtain ⟨v', F2, x, y, z⟩ := g1 d hd
    exact ⟨v', F2, x, y, sub z⟩
  · subst et
    simp only [keyOk, if_true] at hk
    obtain ⟨key, hkey⟩ := Option.isSome_iff_exists.mp hk
    obtain ⟨g1, g2⟩ := RT_get hr hkey
    obtain ⟨t, rfl, ht⟩ := keyT_val hs hkey r
    refine ⟨p, valV kv key, e, .inr ⟨kv, key, t, c.sub hs trivial, rfl, ht, rfl⟩, g2, fun d hd => ?_⟩
    obtain ⟨v', F2, x, y, z⟩ := g1 d hd
    exact ⟨v', F2, x, y, sub z⟩
end

/-! ### o[i] -/
section
variable {X : Cx} {B : Bk} {pos : Pos} {ea ek : Expr} {a k : Ex}
theorem sx_ix (hu : X.A.units + 1 < cLine) (ha : PE X ea (SE B a)) (hk : PE X ek (SE B k)) (hs : PlainIx ek := by exact fun _ _ => rfl) (hn : NoSl ek := by exact fun _ _ => rfl) (hK : X.K = B.K := by rfl) : PE X (.Subscript ea ek pos) (SE B (.ix a k)) := by
  refine ((pe_ix ix_seq ha hk hs).or (pe_dget hu ha hk hn)).imp fun σ H Q h => ?_
  obtain ⟨Z, E, Fs, x, E', st, he, kk⟩ := h
  simp only [ev, Option.bind_eq_bind, Option.bind_eq_some_iff, Prod.exists] at he
  obtain ⟨y, w, E1, h1, he⟩ := he
  by_cases hb : brw a (wr k) (y, w) = true
  · rw [if_pos hb] at he
    simp only [Option.bind_eq_some_iff, Prod.exists] at he
    obtain ⟨z, w', E2, h2, d, h3, e⟩ := he
    simp only [Option.some.injEq, Prod.mk.injEq] at e
    obtain ⟨rfl, rfl⟩ := e
    -- both evaluated; then a part
    have key : ∀ {R2 : V → V → Hp → Prop}, (∀ v u H2 Z2 F1 F2, Sub Z2 H2 → R B.K B.FA Z2 H2 w y v F1 → R B.K B.FA Z2 H2 w' z u F2 →
        (∀ v' F', R B.K B.FA Z2 H2 (kid w) d v' F' → F'.Sublist F1 → (∀ b ∈ F', b ∈ inn true (some (y, w)) F1) → Q v' H2) → R2 v u H2) →
        SE B a σ H fun v H1 => SE B k σ H1 fun u H2 => R2 v u H2 := fun {R2} f => by
      refine ⟨Z, E, Fs, (y, w), E1, st, h1, fun v H1 Z1 F1 Fs1 p => ?_⟩
      refine ⟨Z1, E1, Fs1, (z, w'), E2, p.st, h2, fun u H2 Z2 F2 Fs2 q => ?_⟩
      obtain ⟨_, kr⟩ := p.keep q.ch (brw_ok hb)
      refine f v u H2 Z2 F1 F2 q.st.sub kr q.val fun v' F' hr hsub hin => ?_
      refine kk v' H2 Z2 F' Fs2 ⟨q.st, p.ch.trans q.ch, R_vl hr, fun ep => ?_, fun i b ep => ?_⟩
      · have hpl : isPl a = false := by
          cases hp : isPl a with
          | false => rfl
          | true => simp [pr, hp] at ep
        have en : pr a = none := by simp [pr, hpl]
        rw [en] at p
        obtain ⟨nd, zf, fd⟩ := p.ex rfl
        obtain ⟨a1, a2, _⟩ := p.apart q.ch
        refine ⟨List.nodup_append.mpr ⟨((List.nodup_append.mp nd).1).sublist hsub, q.st.nd, fun c hc c' hc' => ?_⟩, fun c hc => a2 c (hsub.subset hc), fun c hc => ?_⟩
        · rintro rfl
          exact a1 c (hsub.subset hc) hc'
        · exact (fd c (hsub.subset hc)).imp id fun y => y.mono fun i hi => List.mem_append_left _ hi
      · have hpl : isPl a = true := by
          cases hp : isPl a with
          | true => rfl
          | false => simp [pr, hp] at ep
        simp only [pr, isPl, hpl, if_true, root, isIx, Option.some.injEq, Prod.mk.injEq] at ep
        obtain ⟨rfl, rfl⟩ := ep
        refine ⟨fun c hc => ?_, fun z => by cases z⟩
        have ea : pr a = some (root a, isIx a) := by simp [pr, hpl]
        rcases brw_ok hb _ _ ea with pp | nw
        · obtain ⟨e0, _⟩ := R_plain _ pp p.val
          rw [e0] at hsub
          rw [List.sublist_nil.mp hsub] at hc
          cases hc
        · obtain ⟨s1, s2⟩ := q.ch.same _ nw
          have pl := p.pl _ _ ea
          rw [List.getD_eq_getElem?_getD, s1, ← List.getD_eq_getElem?_getD, s2]
          cases ix : isIx a with
          | true =>
            rw [ix] at pl
            exact pl.1 c (hsub.subset hc)
          | false =>
            obtain ⟨e1, e2⟩ := pl.2 ix
            rw [e1, e2]
            exact hin c hc
    have seq : ∀ {ys : List D} {i : Int} {vs : List V} {G F1 : List Addr} {Z2 H2 : Hp}, atI ys i = some d → Rs B.K B.FA Z2 H2 (kid w) ys vs G → G.Sublist F1 → (∀ b ∈ G, b ∈ inn true (some (y, w)) F1) →
        (∀ v' F', R B.K B.FA Z2 H2 (kid w) d v' F' → F'.Sublist F1 → (∀ b ∈ F', b ∈ inn true (some (y, w)) F1) → Q v' H2) → ∃ v', atI vs i = some v' ∧ Q v' H2 := fun {ys i vs G F1 Z2 H2} ei hr hg hi f => by
      obtain ⟨v', F', e1, r1, s1⟩ := Rs_at hr ei
      exact ⟨v', e1, f v' F' r1 (s1.trans hg) fun b hb => hi b (s1.subset hb)⟩
    cases y with
    | lst ys =>
      cases z with
      | int i =>
        refine .inl (key fun v u H2 Z2 F1 F2 hs r1 r2 f => .inl ?_)
        obtain ⟨p, vs, G, rfl, q, hr, ef⟩ := r1
        obtain ⟨rfl, _⟩ := r2
        obtain ⟨v', e1, g⟩ := seq (F1 := F1) h3 hr (by rw [ef]; cases w; exact List.Sublist.refl _; exact List.sublist_cons_self _ _; exact List.sublist_cons_self _ _) (fun b hm => by
          rw [ef]
          cases w
          · rw [Rs_sh _ hr] at hm; cases hm
          · exact hm
          · exact hm) f
        exact ⟨p, vs, i, v', rfl, rfl, hK ▸ q.sub hs, e1, g⟩
      | _ => simp [item] at h3
    | tup ys =>
      cases z with
      | int i =>
        refine .inl (key fun v u H2 Z2 F1 F2 hs r1 r2 f => .inr (.inl ?_))
        obtain ⟨p, vs, rfl, q, hr⟩ := r1
        obtain ⟨rfl, _⟩ := r2
        obtain ⟨v', e1, g⟩ := seq (F1 := F1) h3 hr (List.Sublist.refl _) (fun b hb => hb) f
        exact ⟨p, vs, i, v', rfl, rfl, SqT.of (tup_sub hs q), e1, g⟩
      | _ => simp [item] at h3
    | scr ns =>
      cases z with
      | int i =>
        refine .inl (key fun v u H2 Z2 F1 F2 hs r1 r2 f => .inl ?_)
        obtain ⟨⟨p, rfl, q⟩, ef⟩ := r1
        obtain ⟨rfl, _⟩ := r2
        simp only [item, Option.map_eq_some_iff] at h3
        obtain ⟨n, h3, rfl⟩ := h3
        refine ⟨p, ns.map V.int, i, .int n, rfl, rfl, hK ▸ SqL.sub hs q, ?_, f _ [] ⟨rfl, rfl⟩ (List.nil_sublist _) fun b hb => by cases hb⟩
        unfold atI at h3 ⊢
        rw [List.length_map]
        cases qq : ixN ns.length i with
        | none => rw [qq] at h3; cases h3
        | some j =>
          rw [qq] at h3
          simp only [Option.bind_some] at h3 ⊢
          rw [List.getElem?_map, h3]
          rfl
      | _ => simp [item] at h3
    | str s =>
      cases z with
      | int i =>
        refine .inl (key fun v u H2 Z2 F1 F2 hs r1 r2 f => .inr (.inr ?_))
        obtain ⟨⟨rfl, hl, hok⟩, _⟩ := r1
        obtain ⟨rfl, _⟩ := r2
        simp only [item, Option.map_eq_some_iff] at h3
        obtain ⟨c, h3, rfl⟩ := h3
        exact ⟨s, i, c, rfl, rfl, hl, h3, f _ [] ⟨⟨rfl, (by decide : 1 ≤ 16777216), strOk_one (strOk_at hok h3)⟩, rfl⟩ (List.nil_sublist _) fun b hb => by cases hb⟩
      | _ => simp [item] at h3
    | dic tt kvs =>
      have h3' : keyOk tt z = true ∧ dget kvs z = some d := by
        cases hk : keyOk tt z with
        | false => simp [item, hk] at h3
        | true => simpa [item, hk] using h3
      refine .inr (key fun v u H2 Z2 F1 F2 hs r1 r2 f => ?_)
      obtain ⟨p, o, rfl, dg, _, g⟩ := R_dget hs r1 h3'.1 r2
      obtain ⟨v', F', rfl, r', s', t'⟩ := g d h3'.2
      refine ⟨p, v', rfl, dg, f v' F' r' s' fun b hm => ?_⟩
      rcases t' b hm with z | rfl
      · exact z
      · rw [R_sh _ r'] at hm; cases hm
    | _ => simp [item] at h3
  · rw [if_neg hb] at he
    cases he
end
end BS

set_option Elab.async false
set_option linter.all false
set_option maxRecDepth 100000
set_option maxHeartbeats 2000000
namespace BS
open PySem PySem.Spec PyProof.Rows L2
/-! ### == over data -/
mutual
def toPD : D → PyData
  | .bl b => .bool b
  | .int i => .int i
  | .str s => .str s
  | .lst xs => .list (toPDs xs)
  | .tup xs => .tuple (toPDs xs)
  | _ => .none
def toPDs : List D → List PyData
  | [] => []
  | d :: ds => toPD d :: toPDs ds
end
section
variable {K : PySem.W.Frag} {FA : Nat → Addr → Prop} {Z Z' H H' : Hp}
mutual
theorem R_Dp (hs : Sub Z H) : ∀ (d : D) {n w v F}, shp n d = true → R K FA Z H w d v F → Dp K H v (toPD d)
  | .non, _, _, _, _, _, h => by rw [h.1]; exact .non
  | .bl b, _, _, _, _, _, h => by rw [h.1]; exact .bl b
  | .int i, _, _, _, _, _, h => by rw [h.1]; exact .int i
  | .str s, _, _, _, _, _, h => by rw [h.1.1]; exact .str s
  | .lst ds, 0, _, _, _, s, _ => by simp [shp] at s
  | .lst ds, n + 1, _, _, _, s, ⟨p, vs, G, e, q, h, ef⟩ => by
    rw [e]
    exact .lst (q.sub hs) (Rs_Dp hs ds (n := n) (by simpa [shp] using s) h)
  | .tup ds, 0, _, _, _, s, _ => by simp [shp] at s
  | .tup ds, n + 1, _, _, _, s, ⟨t, vs, e, q, h⟩ => by
    rw [e]
    exact .tup (SqT.of (tup_sub hs q)) (Rs_Dp hs ds (n := n) (by simpa [shp] using s) h)
  | .fn _, n, _, _, _, s, _ => by cases n <;> simp [shp] at s
  | .scr _, n, _, _, _, s, _ => by cases n <;> simp [shp] at s
  | .dic _ _, n, _, _, _, s, _ => by cases n <;> simp [shp] at s
theorem Rs_Dp (hs : Sub Z H) : ∀ (ds : List D) {n w vs F}, shps n ds = true → Rs K FA Z H w ds vs F → DpAll K H vs (toPDs ds)
  | [], _, _, _, _, _, h => by rw [h.1]; exact .nil
  | d :: ds, n, _, _, _, s, ⟨v, us, A, C, e0, h1, h2, e⟩ => by
    rw [e0]
    simp only [shps, Bool.and_eq_true] at s
    exact .cons (R_Dp hs d s.1 h1) (Rs_Dp hs ds s.2 h2)
end
mutual
theorem R_lay : ∀ (d : D) {n w v F}, shp n d = true → R K FA Z H w d v F → (toPD d).canLay0 = true ∧ (toPD d).depth ≤ n
  | .non, _, _, _, _, _, h => ⟨rfl, Nat.zero_le _⟩
  | .bl b, _, _, _, _, _, h => ⟨rfl, Nat.zero_le _⟩
  | .int i, _, _, _, _, _, h => ⟨rfl, Nat.zero_le _⟩
  | .str s, _, _, _, _, _, h => ⟨h.1.2.2, Nat.zero_le _⟩
  | .lst ds, 0, _, _, _, s, _ => by simp [shp] at s
  | .lst ds, n + 1, _, _, _, s, ⟨p, vs, G, e, q, h, ef⟩ => by
    obtain ⟨a, b⟩ := Rs_lay ds (n := n) (by simpa [shp] using s) h
    exact ⟨a, Nat.succ_le_succ b⟩
  | .tup ds, 0, _, _, _, s, _ => by simp [shp] at s
  | .tup ds, n + 1, _, _, _, s, ⟨t, vs, e, q, h⟩ => by
    obtain ⟨a, b⟩ := Rs_lay ds (n := n) (by simpa [shp] using s) h
    exact ⟨a, Nat.succ_le_succ b⟩
  | .fn _, n, _, _, _, s, _ => by cases n <;> simp [shp] at s
  | .scr _, n, _, _, _, s, _ => by cases n <;> simp [shp] at s
  | .dic _ _, n, _, _, _, s, _ => by cases n <;> simp [shp] at s
theorem Rs_lay : ∀ (ds : List D) {n w vs F}, shps n ds = true → Rs K FA Z H w ds vs F → PyData.canLayAll0 (toPDs ds) = true ∧ PyData.depthAll (toPDs ds) ≤ n
  | [], _, _, _, _, _, h => ⟨rfl, Nat.zero_le _⟩
  | d :: ds, n, _, _, _, s, ⟨v, us, A, C, e0, h1, h2, e⟩ => by
    simp only [shps, Bool.and_eq_true] at s
    obtain ⟨a, b⟩ := R_lay d s.1 h1
    obtain ⟨a', b'⟩ := Rs_lay ds s.2 h2
    exact ⟨by show (PyData.canLay0 _ && PyData.canLayAll0 _) = true; rw [a, a']; rfl, Nat.max_le.mpr ⟨b, b'⟩⟩
end
end
mutual
theorem deq_eqv : ∀ (a b : D) {n m}, shp n a = true → shp m b = true → PyData.eqv (toPD a) (toPD b) = deq a b
  | .lst xs, .lst ys, n, m, s, t => by
    cases n with
    | zero => simp [shp] at s
    | succ n =>
      cases m with
      | zero => simp [shp] at t
      | succ m =>
        simp only [toPD, PyData.eqv, deq]
        exact deqs_eqv xs ys (by simpa [shp] using s) (by simpa [shp] using t)
  | .tup xs, .tup ys, n, m, s, t => by
    cases n with
    | zero => simp [shp] at s
    | succ n =>
      cases m with
      | zero => simp [shp] at t
      | succ m =>
        simp only [toPD, PyData.eqv, deq]
        exact deqs_eqv xs ys (by simpa [shp] using s) (by simpa [shp] using t)
  | .str x, .str y, _, _, _, _ => by simp only [toPD, PyData.eqv, deq, Bool.beq_eq_decide_eq]
  | .fn _, _, n, _, s, _ => by cases n <;> simp [shp] at s
  | .scr _, _, n, _, s, _ => by cases n <;> simp [shp] at s
  | .dic _ _, _, n, _, s, _ => by cases n <;> simp [shp] at s
  | .non, b, _, m, _, t => by cases b <;> first | rfl | (cases m <;> simp [shp] at t)
  | .bl x, b, _, m, _, t => by cases b <;> first | rfl | (cases m <;> simp [shp] at t)
  | .int x, b, _, m, _, t => by cases b <;> first | rfl | (cases m <;> simp [shp] at t)
  | .str x, .non, _, _, _, _ => rfl
  | .str x, .bl _, _, _, _, _ => rfl
  | .str x, .int _, _, _, _, _ => rfl
  | .str x, .lst _, _, _, _, _ => rfl
  | .str x, .tup _, _, _, _, _ => rfl
  | .str x, .fn _, _, m, _, t => by cases m <;> simp [shp] at t
  | .str x, .scr _, _, m, _, t => by cases m <;> simp [shp] at t
  | .str x, .dic _ _, _, m, _, t => by cases m <;> simp [shp] at t
  | .lst x, .non, _, _, _, _ => rfl
  | .lst x, .bl _, _, _, _, _ => rfl
  | .lst x, .int _, _, _, _, _ => rfl
  | .lst x, .str _, _, _, _, _ => rfl
  | .lst x, .tup _, _, _, _, _ => rfl
  | .lst x, .fn _, _, m, _, t => by cases m <;> simp [shp] at t
  | .lst x, .scr _, _, m, _, t => by cases m <;> simp [shp] at t
  | .lst x, .dic _ _, _, m, _, t => by cases m <;> simp [shp] at t
  | .tup x, .non, _, _, _, _ => rfl
  | .tup x, .bl _, _, _, _, _ => rfl
  | .tup x, .int _, _, _, _, _ => rfl
  | .tup x, .str _, _, _, _, _ => rfl
  | .tup x, .lst _, _, _, _, _ => rfl
  | .tup x, .fn _, _, m, _, t => by cases m <;> simp [shp] at t
  | .tup x, .scr _, _, m, _, t => by cases m <;> simp [shp] at t
  | .tup x, .dic _ _, _, m, _, t => by cases m <;> simp [shp] at t
theorem deqs_eqv : ∀ (xs ys : List D) {n m}, shps n xs = true → shps m ys = true → PyData.eqvAll (toPDs xs) (toPDs ys) = deqs xs ys
  | [], [], _, _, _, _ => rfl
  | [], _ :: _, _, _, _, _ => rfl
  | _ :: _, [], _, _, _, _ => rfl
  | x :: xs, y :: ys, n, m, s, t => by
    simp only [shps, Bool.and_eq_true] at s t
    simp only [toPDs, PyData.eqvAll, deqs, deq_eqv x y s.1 t.1, deqs_eqv xs ys s.2 t.2]
end
section
variable {B : Bk}
theorem ok_eq : Ok2 B (app2 .eq) (rEqD B.K) := by
  intro a b d' v u w w' F F' Z H Q hs r1 r2 he k
  simp only [app2] at he
  split at he
  · rename_i hc
    simp only [Bool.and_eq_true] at hc
    cases he
    refine ⟨toPD a, toPD b, R_Dp hs a hc.1 r1, R_Dp hs b hc.2 r2, ?_, ?_, ?_⟩
    · obtain ⟨x, y⟩ := R_lay a hc.1 r1
      unfold SeqAt.shaped
      rw [x, decide_eq_true (by omega)]
      rfl
    · obtain ⟨x, y⟩ := R_lay b hc.2 r2
      unfold SeqAt.shaped
      rw [x, decide_eq_true (by omega)]
      rfl
    · rw [deq_eqv a b hc.1 hc.2]
      exact k _ fun w => ⟨rfl, rfl⟩
  · cases he
theorem ok_ne : Ok2 B (app2 .ne) (rNeD B.K) := by
  intro a b d' v u w w' F F' Z H Q hs r1 r2 he k
  simp only [app2] at he
  split at he
  · rename_i hc
    simp only [Bool.and_eq_true] at hc
    cases he
    refine ⟨toPD a, toPD b, R_Dp hs a hc.1 r1, R_Dp hs b hc.2 r2, ?_, ?_, ?_⟩
    · obtain ⟨x, y⟩ := R_lay a hc.1 r1
      unfold SeqAt.shaped
      rw [x, decide_eq_true (by omega)]
      rfl
    · obtain ⟨x, y⟩ := R_lay b hc.2 r2
      unfold SeqAt.shaped
      rw [x, decide_eq_true (by omega)]
      rfl
    · rw [deq_eqv a b hc.1 hc.2]
      exact k _ fun w => ⟨rfl, rfl⟩
  · cases he
/-! ### a text times an int -/
theorem fold_app_list : ∀ (l : List (Array Nat)) (a : Array Nat), (l.foldl (· ++ ·) a).toList = a.toList ++ (l.map Array.toList).flatten
  | [], a => by simp
  | x :: l, a => by
    rw [List.foldl_cons, fold_app_list l]
    simp
theorem srep_toList {s : Str} {n : Nat} : ((List.replicate n s.cps).foldl (· ++ ·) #[]).toList = (List.replicate n s.cps.toList).flatten := by
  rw [fold_app_list]
  simp
theorem srep_len {s : Str} {k : Int} (h : 0 ≤ k) : (srep s k).length = s.length * k.toNat := by
  unfold srep
  split
  · rename_i hc
    have : k.toNat = 0 := by omega
    rw [this]
    rfl
  · split
    · rename_i _ hc
      simp only [Bool.or_eq_true, beq_iff_eq] at hc
      rcases hc with rfl | hc
      · simp
      · rw [hc]; simp
    · show ((List.replicate k.toNat s.cps).foldl (· ++ ·) #[]).size = _
      rw [← Array.length_toList, srep_toList]
      simp
      show k.toNat * s.length = _
      exact Nat.mul_comm _ _
theorem srep_ok {s : Str} {k : Int} (h : PyData.strOk s = true) : PyData.strOk (srep s k) = true := by
  unfold srep
  split
  · decide +kernel
  · split
    · exact h
    · rw [strOk_iff] at h ⊢
      intro c hc
      have hc' : c ∈ ((List.replicate k.toNat s.cps).foldl (· ++ ·) #[]).toList := hc
      rw [srep_toList] at hc'
      simp only [List.mem_flatten, List.mem_replicate] at hc'
      obtain ⟨l, ⟨_, rfl⟩, hl⟩ := hc'
      exact h c hl
/-! ### numbers -/
theorem ok_sub : Ok2 B (app2 .sub) (rI0 fun i j => .int (i - j)) := by
  intro a b d' v u w w' F F' Z H Q hs r1 r2 he k
  cases a <;> cases b <;> simp [app2] at he
  subst he
  exact ⟨_, _, r1.1, r2.1, k _ fun w => ⟨rfl, rfl⟩⟩
theorem strOk_app {a b : Str} (ha : PyData.strOk a = true) (hb : PyData.strOk b = true) : PyData.strOk (a ++ b) = true := by
  rw [strOk_iff] at ha hb ⊢
  intro c hc
  have : c ∈ a.cps.toList ∨ c ∈ b.cps.toList := by
    have e : (a ++ b).cps = a.cps ++ b.cps := rfl
    rw [e] at hc
    simpa using hc
  exact this.elim (ha c) (hb c)
theorem ok_add : Ok2 B (app2 .add) (fun x y H Q => (rI0 fun i j => .int (i + j)) x y H Q ∨ ∃ i j, x = .str i ∧ y = .str j ∧ i.length + j.length ≤ sizeLine ∧ Q (.str (i ++ j)) H) := by
  intro a b d' v u w w' F F' Z H Q hs r1 r2 he k
  cases a <;> cases b <;> simp [app2] at he
  · subst he
    exact .inl ⟨_, _, r1.1, r2.1, k _ fun w => ⟨rfl, rfl⟩⟩
  · obtain ⟨hl, he⟩ := he
    subst he
    refine .inr ⟨_, _, r1.1.1, r2.1.1, hl, k _ fun w => ⟨⟨rfl, ?_, strOk_app r1.1.2.2 r2.1.2.2⟩, rfl⟩⟩
    have e : ∀ i j : Str, (i ++ j).length = i.length + j.length := fun i j => by
      show (i.cps ++ j.cps).size = _
      simp
      rfl
    rw [e]
    exact hl
theorem ok_mul : Ok2 B (app2 .mul) (fun x y H Q => (rI CMul fun i j => .int (i * j)) x y H Q ∨ ∃ s k, x = .str s ∧ y = .int k ∧ 0 ≤ k ∧ k < 2 ^ 62 ∧ s.length * k.toNat ≤ sizeLine ∧ Q (.str (srep s k)) H) := by
  intro a b d' v u w w' F F' Z H Q hs r1 r2 he k
  cases a <;> cases b <;> simp [app2] at he
  · obtain ⟨hc, he⟩ := he
    subst he
    exact .inl ⟨_, _, r1.1, r2.1, hc, k _ fun w => ⟨rfl, rfl⟩⟩
  · obtain ⟨⟨h1, h2, h3⟩, he⟩ := he
    subst he
    exact .inr ⟨_, _, r1.1.1, r2.1, h1, h2, h3, k _ fun w => ⟨⟨rfl, by rw [srep_len h1]; exact h3, srep_ok r1.1.2.2⟩, rfl⟩⟩
theorem ok_fdiv : Ok2 B (app2 .fdiv) (rI CDiv fun i j => .int (i / j)) := by
  intro a b d' v u w w' F F' Z H Q hs r1 r2 he k
  cases a <;> cases b <;> simp [app2] at he
  obtain ⟨hc, he⟩ := he
  subst he
  exact ⟨_, _, r1.1, r2.1, hc, k _ fun w => ⟨rfl, rfl⟩⟩
theorem ok_mod : Ok2 B (app2 .mod) (rI (fun _ j => 0 < j) fun i j => .int (i % j)) := by
  intro a b d' v u w w' F F' Z H Q hs r1 r2 he k
  cases a <;> cases b <;> simp [app2] at he
  obtain ⟨hc, he⟩ := he
  subst he
  exact ⟨_, _, r1.1, r2.1, hc, k _ fun w => ⟨rfl, rfl⟩⟩
theorem ok_pow : Ok2 B (app2 .pow) (rI CPow fun i j => .int (i ^ j.toNat)) := by
  intro a b d' v u w w' F F' Z H Q hs r1 r2 he k
  cases a <;> cases b <;> simp [app2] at he
  obtain ⟨hc, he⟩ := he
  subst he
  exact ⟨_, _, r1.1, r2.1, hc, k _ fun w => ⟨rfl, rfl⟩⟩
theorem ok_lt : Ok2 B (app2 .lt) (rI0 fun i j => .bl (decide (i < j))) := by
  intro a b d' v u w w' F F' Z H Q hs r1 r2 he k
  cases a <;> cases b <;> simp [app2] at he
  subst he
  exact ⟨_, _, r1.1, r2.1, k _ fun w => ⟨rfl, rfl⟩⟩
theorem ok_le : Ok2 B (app2 .le) (rI0 fun i j => .bl (decide (i ≤ j))) := by
  intro a b d' v u w w' F F' Z H Q hs r1 r2 he k
  cases a <;> cases b <;> simp [app2] at he
  subst he
  exact ⟨_, _, r1.1, r2.1, k _ fun w => ⟨rfl, rfl⟩⟩
theorem ok_gt : Ok2 B (app2 .gt) (rI0 fun i j => .bl (decide (j < i))) := by
  intro a b d' v u w w' F F' Z H Q hs r1 r2 he k
  cases a <;> cases b <;> simp [app2] at he
  subst he
  exact ⟨_, _, r1.1, r2.1, k _ fun w => ⟨rfl, rfl⟩⟩
theorem ok_ge : Ok2 B (app2 .ge) (rI0 fun i j => .bl (decide (j ≤ i))) := by
  intro a b d' v u w w' F F' Z H Q hs r1 r2 he k
  cases a <;> cases b <;> simp [app2] at he
  subst he
  exact ⟨_, _, r1.1, r2.1, k _ fun w => ⟨rfl, rfl⟩⟩
theorem ok_neg : Ok1 B (app1 .neg) (rU fun i => .int (-i)) := by
  intro a d' v w F Z H Q hs r1 he k
  cases a <;> simp [app1] at he
  subst he
  exact ⟨_, r1.1, k _ fun w => ⟨rfl, rfl⟩⟩
end
section
variable {X : Cx} {B : Bk} {pos p : Pos} {ea eb : Expr} {a b : Ex}
theorem op_srep : OpR X (binaryOp .Mult) (fun x y H Q => ∃ s k, x = .str s ∧ y = .int k ∧ 0 ≤ k ∧ k < 2 ^ 62 ∧ s.length * k.toNat ≤ sizeLine ∧ Q (.str (srep s k)) H) := by
  intro pins s σ H x y v u Q I rx ry h
  obtain ⟨z, k, rfl, rfl, h1, h2, hz, q⟩ := h
  obtain ⟨t, rfl⟩ := rx
  obtain ⟨t2, rfl⟩ := ry
  refine PySem.P.mul_str ?_ (fun n1 _ => ?_) (fun n1 _ => ?_) ?_
  · rw [decide_eq_false (by omega), decide_eq_false (by omega)]
    rfl
  · have e : sizeLine = 16777216 := by decide +kernel
    have : (z.length : Int) * k ≤ 16777216 := by
      have e2 : k = (k.toNat : Int) := (Int.toNat_of_nonneg h1).symm
      rw [e2, ← Int.natCast_mul]
      omega
    intro hgt
    have h3 := Int.lt_mul_of_ediv_lt (by omega : 0 < k) hgt
    omega
  · exact PyProof.Rows.short24 hz
  · unfold srep at q
    split
    · rename_i hc
      rw [if_pos hc] at q
      exact ⟨by decide, .str _, H, I.tok _, ⟨_, rfl⟩, q⟩
    · rename_i hc
      rw [if_neg hc] at q
      split
      · rename_i hd
        rw [if_pos hd] at q
        exact ⟨.str _, H, I, ⟨_, rfl⟩, q⟩
      · rename_i hd
        rw [if_neg hd] at q
        exact ⟨by have e := srep_len (s := z) h1; unfold srep at e; rw [if_neg hc, if_neg hd] at e; rw [e]; exact hz, .str _, H, I.tok _, ⟨_, rfl⟩, q⟩
theorem sx_add (ha : PE X ea (SE B a)) (hb : PE X eb (SE B b)) : PE X (.BinOp ea .Add eb pos) (SE B (.op2 .add a b)) := sx_bin (op_add.or op_add_str) ok_add ha hb
theorem sx_sub (ha : PE X ea (SE B a)) (hb : PE X eb (SE B b)) : PE X (.BinOp ea .Sub eb pos) (SE B (.op2 .sub a b)) := sx_bin op_sub ok_sub ha hb
theorem sx_mul (ha : PE X ea (SE B a)) (hb : PE X eb (SE B b)) : PE X (.BinOp ea .Mult eb pos) (SE B (.op2 .mul a b)) := sx_bin (op_mul.or op_srep) ok_mul ha hb
theorem sx_fdiv (ha : PE X ea (SE B a)) (hb : PE X eb (SE B b)) : PE X (.BinOp ea .FloorDiv eb pos) (SE B (.op2 .fdiv a b)) := sx_bin op_fdiv ok_fdiv ha hb
theorem sx_mod (ha : PE X ea (SE B a)) (hb : PE X eb (SE B b)) : PE X (.BinOp ea .Mod eb pos) (SE B (.op2 .mod a b)) := sx_bin op_mod ok_mod ha hb
theorem sx_pow (ha : PE X ea (SE B a)) (hb : PE X eb (SE B b)) : PE X (.BinOp ea .Pow eb pos) (SE B (.op2 .pow a b)) := sx_bin op_pow ok_pow ha hb
theorem sx_neg (ha : PE X ea (SE B a)) : PE X (.UnaryOp .USub ea pos) (SE B (.op1 .neg a)) := sx_un un_neg ok_neg ha
end
end BS

set_option Elab.async false
set_option linter.all false
set_option maxRecDepth 100000
set_option maxHeartbeats 2000000
namespace BS
open PySem PySem.Spec PyProof.Rows L2
/-! ### what stands in what -/
section
variable {K : PySem.W.Frag} {FA : Nat → Addr → Prop} {Z Z' H H' : Hp}
theorem eqV_deq {a b : D} {v u : V} {w w' F F'} (r1 : R K FA Z H w a v F) (r2 : R K FA Z H w' b u F') (h1 : scalar a = true) (h2 : scalar b = true) : eqV v u = deq a b := by
  cases a with
  | non =>
    cases b with
    | non => rw [r1.1, r2.1]; rfl
    | bl y => rw [r1.1, r2.1]; rfl
    | int y => rw [r1.1, r2.1]; rfl
    | str y => rw [r1.1, r2.1.1]; rfl
    | _ => simp at h2
  | bl x =>
    cases b with
    | non => rw [r1.1, r2.1]; rfl
    | bl y => rw [r1.1, r2.1]; rfl
    | int y => rw [r1.1, r2.1]; rfl
    | str y => rw [r1.1, r2.1.1]; rfl
    | _ => simp at h2
  | int x =>
    cases b with
    | non => rw [r1.1, r2.1]; rfl
    | bl y => rw [r1.1, r2.1]; rfl
    | int y => rw [r1.1, r2.1]; rfl
    | str y => rw [r1.1, r2.1.1]; rfl
    | _ => simp at h2
  | str x =>
    cases b with
    | non => rw [r1.1.1, r2.1]; rfl
    | bl y => rw [r1.1.1, r2.1]; rfl
    | int y => rw [r1.1.1, r2.1]; rfl
    | str y => rw [r1.1.1, r2.1.1]; simp only [eqV, deq, Bool.beq_eq_decide_eq]
    | _ => simp at h2
  | _ => simp at h1
theorem flat_of {a : D} {v : V} {w F} (r : R K FA Z H w a v F) (h : scalar a = true) : flatV v = true := by
  cases a with
  | non => rw [r.1]; rfl
  | bl _ => rw [r.1]; rfl
  | int _ => rw [r.1]; rfl
  | str _ => rw [r.1.1]; rfl
  | _ => simp at h
theorem inV_deq {a : D} {v : V} {w F} (r : R K FA Z H w a v F) (h : scalar a = true) : ∀ {xs : List D} {w' vs F'}, Rs K FA Z H w' xs vs F' → scalars xs = true → vs.all flatV = true ∧ inV v vs = xs.any fun y => deq y a
  | [], _, _, _, hr, _ => by rw [hr.1]; exact ⟨rfl, rfl⟩
  | x :: xs, _, _, _, ⟨v0, us, A, C, e0, h1, h2, e⟩, hs => by
    simp only [scalars, Bool.and_eq_true] at hs
    obtain ⟨a1, a2⟩ := inV_deq r h h2 hs.2
    rw [e0]
    refine ⟨by simp [flat_of h1 hs.1, a1], ?_⟩
    show (eqV v0 v || inV v us) = _
    rw [a2, eqV_deq h1 r hs.1 h, List.any_cons]
theorem dhas_get {kvs : List (D × D)} {k : D} : dhas kvs k = (dget kvs k).isSome := by
  induction kvs with
  | nil => rfl
  | cons p r ih =>
    obtain ⟨a, v⟩ := p
    have e1 : dhas ((a, v) :: r) k = (keq a k || dhas r k) := rfl
    have e2 : dget ((a, v) :: r) k = if keq a k then some v else dget r k := rfl
    rw [e1, e2]
    cases q : keq a k with
    | true => rfl
    | false => simpa using ih
end
section
variable {X : Cx} {B : Bk} {pos p : Pos} {ea eb : Expr} {a b : Ex}
theorem any_eqv {a : D} {n m : Nat} (ha : shp n a = true) : ∀ xs : List D, shps m xs = true → ((toPDs xs).any fun z => PyData.eqv z (toPD a)) = xs.any fun y => deq y a
  | [], _ => rfl
  | x :: xs, h => by
    simp only [shps, Bool.and_eq_true] at h
    simp only [toPDs, List.any_cons, deq_eqv x a h.1 ha, any_eqv ha xs h.2]
theorem str_one {s : Str} {c : Nat} (h : s.cps.toList = [c]) : s = ⟨#[c]⟩ := by
  obtain ⟨l⟩ := s
  have : l = #[c] := by
    apply Array.toList_inj.mp
    simpa using h
  rw [this]
def rInB (K : PySem.W.Frag) : R2 := fun x y H Q => rIn K false x y H Q ∨ ∃ (c : Nat) (z : Str), x = .str ⟨#[c]⟩ ∧ y = .str z ∧ Q (.bl (decide (c ∈ z.cps.toList))) H
def rNinB (K : PySem.W.Frag) : R2 := fun x y H Q => rIn K true x y H Q ∨ ∃ (c : Nat) (z : Str), x = .str ⟨#[c]⟩ ∧ y = .str z ∧ Q (.bl (!decide (c ∈ z.cps.toList))) H
def rDin (neg : Bool) : R2 := fun y x H Q => ∃ a o, x = .ref a ∧ DGet H a y o ∧ Q (.bl (if neg then !o.isSome else o.isSome)) H
/-- «in»: a dict, or the rest -/
def isDic' : D → Bool
  | .dic _ _ => true
  | _ => false
theorem ok_in_a {a : D} {xs : List D} {v u : V} {w w' F F' Z H Q} (hs : Sub Z H) (r1 : R B.K B.FA Z H w a v F) (r2 : R B.K B.FA Z H w' (.lst xs) u F') (hc : scalar a = true ∧ scalars xs = true) (k : Q (.bl (xs.any fun y => deq y a)) H) : rInB B.K v u H Q ∨ rDin false v u H Q ∨ rInD B.K v u H Q := by
  obtain ⟨q, vs, G, e, hq, hr, ef⟩ := r2
  obtain ⟨x1, x2⟩ := inV_deq r1 hc.1 hr hc.2
  refine .inl (.inl ⟨q, vs, e, .inl (hq.sub hs), flat_of r1 hc.1, x1, ?_⟩)
  simp only [Bool.false_eq_true, if_false, x2]
  exact k
theorem ok_in : Ok2 B (app2 .In) (fun x y H Q => rInB B.K x y H Q ∨ rDin false x y H Q ∨ rInD B.K x y H Q) := by
  intro a b d' v u w w' F F' Z H Q hs r1 r2 he k
  cases b with
  | lst xs =>
    simp only [app2] at he
    split at he
    · rename_i hc
      rw [Bool.or_eq_true] at hc
      simp only [Bool.and_eq_true] at hc
      cases he
      rcases hc with hc | hc
      · exact ok_in_a hs r1 r2 hc (k _ fun w => ⟨rfl, rfl⟩)
      refine .inr (.inr ⟨toPD a, toPDs xs, R_Dp hs a hc.1 r1, R_Dp (n := 30) hs (.lst xs) hc.2 r2, ?_, ?_, ?_⟩)
      · obtain ⟨x, y⟩ := R_lay a hc.1 r1
        unfold SeqAt.shaped
        rw [x, decide_eq_true (by omega)]
        rfl
      · obtain ⟨x, y⟩ := R_lay (n := 30) (.lst xs) hc.2 r2
        have x' : PyData.canLay0 (.list (toPDs xs)) = true := x
        have y' : PyData.depth (.list (toPDs xs)) ≤ 30 := y
        unfold SeqAt.shaped
        rw [x', decide_eq_true (by omega)]
        rfl
      · rw [any_eqv hc.1 xs hc.2]
        exact k _ fun w => ⟨rfl, rfl⟩
    · cases he
  | tup xs =>
    simp only [app2] at he
    split at he
    · rename_i hc
      simp only [Bool.and_eq_true] at hc
      cases he
      obtain ⟨q, vs, e, hq, hr⟩ := r2
      obtain ⟨x1, x2⟩ := inV_deq r1 hc.1 hr hc.2
      refine .inl (.inl ⟨q, vs, e, .inr (SqT.of (tup_sub hs hq)), flat_of r1 hc.1, x1, ?_⟩)
      simp only [Bool.false_eq_true, if_false, x2]
      exact k _ fun w => ⟨rfl, rfl⟩
    · cases he
  | str z =>
    cases a with
    | str s =>
      simp only [app2] at he
      split at he
      · rename_i c hc
        cases he
        refine .inl (.inr ⟨c, z, ?_, r2.1.1, k _ fun w => ⟨rfl, rfl⟩⟩)
        rw [r1.1.1, str_one hc]
      · cases he
    | _ => simp [app2] at he
  | dic t kvs =>
    have hk : keyOk t a = true ∧ d' = .bl (dhas kvs a) := by
      cases hk : keyOk t a with
      | false => cases a <;> simp [app2, hk] at he
      | true => cases a <;> simp [app2, hk] at he <;> exact ⟨rfl, he.symm⟩
    obtain ⟨hk, rfl⟩ := hk
    obtain ⟨q, o, e, dg, g1, g2⟩ := R_dget hs r2 hk r1
    refine .inr (.inl ⟨q, o, e, dg, ?_⟩)
    simp only [Bool.false_eq_true, if_false]
    refine k _ fun w => ⟨?_, rfl⟩
    rw [dhas_get]
    cases e : dget kvs a with
    | none => rw [g1 e]; rfl
    | some d =>
      obtain ⟨v', _, e2, _⟩ := g2 d e
      rw [e2]; rfl
  | _ => cases a <;> simp [app2] at he
theorem ok_nin_a {a : D} {xs : List D} {v u : V} {w w' F F' Z H Q} (hs : Sub Z H) (r1 : R B.K B.FA Z H w a v F) (r2 : R B.K B.FA Z H w' (.lst xs) u F') (hc : scalar a = true ∧ scalars xs = true) (k : Q (.bl (!xs.any fun y => deq y a)) H) : rNinB B.K v u H Q ∨ rDin true v u H Q ∨ rNotInD B.K v u H Q := by
  obtain ⟨q, vs, G, e, hq, hr, ef⟩ := r2
  obtain ⟨x1, x2⟩ := inV_deq r1 hc.1 hr hc.2
  refine .inl (.inl ⟨q, vs, e, .inl (hq.sub hs), flat_of r1 hc.1, x1, ?_⟩)
  simp only [if_true, x2]
  exact k
theorem ok_nin : Ok2 B (app2 .NotIn) (fun x y H Q => rNinB B.K x y H Q ∨ rDin true x y H Q ∨ rNotInD B.K x y H Q) := by
  intro a b d' v u w w' F F' Z H Q hs r1 r2 he k
  cases b with
  | lst xs =>
    simp only [app2] at he
    split at he
    · rename_i hc
      rw [Bool.or_eq_true] at hc
      simp only [Bool.and_eq_true] at hc
      cases he
      rcases hc with hc | hc
      · exact ok_nin_a hs r1 r2 hc (k _ fun w => ⟨rfl, rfl⟩)
      refine .inr (.inr ⟨toPD a, toPDs xs, R_Dp hs a hc.1 r1, R_Dp (n := 30) hs (.lst xs) hc.2 r2, ?_, ?_, ?_⟩)
      · obtain ⟨x, y⟩ := R_lay a hc.1 r1
        unfold SeqAt.shaped
        rw [x, decide_eq_true (by omega)]
        rfl
      · obtain ⟨x, y⟩ := R_lay (n := 30) (.lst xs) hc.2 r2
        have x' : PyData.canLay0 (.list (toPDs xs)) = true := x
        have y' : PyData.depth (.list (toPDs xs)) ≤ 30 := y
        unfold SeqAt.shaped
        rw [x', decide_eq_true (by omega)]
        rfl
      · rw [any_eqv hc.1 xs hc.2]
        exact k _ fun w => ⟨rfl, rfl⟩
    · cases he
  | tup xs =>
    simp only [app2] at he
    split at he
    · rename_i hc
      simp only [Bool.and_eq_true] at hc
      cases he
      obtain ⟨q, vs, e, hq, hr⟩ := r2
      obtain ⟨x1, x2⟩ := inV_deq r1 hc.1 hr hc.2
      refine .inl (.inl ⟨q, vs, e, .inr (SqT.of (tup_sub hs hq)), flat_of r1 hc.1, x1, ?_⟩)
      simp only [if_true, x2]
      exact k _ fun w => ⟨rfl, rfl⟩
    · cases he
  | str z =>
    cases a with
    | str s =>
      simp only [app2] at he
      split at he
      · rename_i c hc
        cases he
        refine .inl (.inr ⟨c, z, ?_, r2.1.1, k _ fun w => ⟨rfl, rfl⟩⟩)
        rw [r1.1.1, str_one hc]
      · cases he
    | _ => simp [app2] at he
  | dic t kvs =>
    have hk : keyOk t a = true ∧ d' = .bl (!dhas kvs a) := by
      cases hk : keyOk t a with
      | false => cases a <;> simp [app2, hk] at he
      | true => cases a <;> simp [app2, hk] at he <;> exact ⟨rfl, he.symm⟩
    obtain ⟨hk, rfl⟩ := hk
    obtain ⟨q, o, e, dg, g1, g2⟩ := R_dget hs r2 hk r1
    refine .inr (.inl ⟨q, o, e, dg, ?_⟩)
    simp only [if_true]
    refine k _ fun w => ⟨?_, rfl⟩
    rw [dhas_get]
    cases e : dget kvs a with
    | none => rw [g1 e]; rfl
    | some d =>
      obtain ⟨v', _, e2, _⟩ := g2 d e
      rw [e2]; rfl
  | _ => cases a <;> simp [app2] at he
theorem op_in_B (hK : X.K = B.K) : OpR X (compareOp .In) (rInB B.K) := hK ▸ op_in_seq.or op_in_sign
theorem op_nin_B (hK : X.K = B.K) : OpR X (compareOp .NotIn) (rNinB B.K) := hK ▸ op_notIn_seq.or op_notIn_sign
theorem opr_din (hu : X.A.units + 1 < cLine) : OpR X (compareOp .In) (rDin false) := by
  intro pins s σ H x y v u Q I rx ry h
  obtain ⟨a, o, rfl, dg, q⟩ := h
  obtain rfl : u = Value.ref a := ry
  exact d_in hu I dg rx fun s3 I3 => ⟨.bl o.isSome, H, I3, rfl, q⟩
theorem opr_dnin (hu : X.A.units + 1 < cLine) : OpR X (compareOp .NotIn) (rDin true) := by
  intro pins s σ H x y v u Q I rx ry h
  obtain ⟨a, o, rfl, dg, q⟩ := h
  obtain rfl : u = Value.ref a := ry
  exact d_notIn hu I dg rx fun s3 I3 => ⟨.bl (!o.isSome), H, I3, rfl, q⟩
theorem opr_in (hu : X.A.units + 65 < cLine) (hK : X.K = B.K) : OpR X (compareOp .In) (fun x y H Q => rInB B.K x y H Q ∨ rDin false x y H Q ∨ rInD B.K x y H Q) := (op_in_B hK).or ((opr_din (by omega)).or (hK ▸ op_inD hu))
theorem opr_nin (hu : X.A.units + 65 < cLine) (hK : X.K = B.K) : OpR X (compareOp .NotIn) (fun x y H Q => rNinB B.K x y H Q ∨ rDin true x y H Q ∨ rNotInD B.K x y H Q) := (op_nin_B hK).or ((opr_dnin (by omega)).or (hK ▸ op_notInD hu))
theorem opr_eq (hu : X.A.units + 64 < cLine) (hK : X.K = B.K) : OpR X (compareOp .Eq) (rEqD B.K) := hK ▸ op_eqD hu
theorem opr_ne (hu : X.A.units + 64 < cLine) (hK : X.K = B.K) : OpR X (compareOp .NotEq) (rNeD B.K) := hK ▸ op_neD hu
/-! ### comparisons, as values and as tests -/
theorem sx_eq (hu : X.A.units + 64 < cLine) (ha : PE X ea (SE B a)) (hb : PE X eb (SE B b)) (hK : X.K = B.K := by rfl) : PE X (.Compare ea [.Eq] [eb] pos) (SE B (.op2 .eq a b)) := sx_cmp (opr_eq hu hK) ok_eq ha hb (nomark _)
theorem sp_eq (hu : X.A.units + 64 < cLine) (ha : PE X ea (SE B a)) (hb : PE X eb (SE B b)) (hK : X.K = B.K := by rfl) : PT X (.Compare ea [.Eq] [eb] pos) (ST B (.op2 .eq a b)) := sp_cmp (opr_eq hu hK) ok_eq ha hb (nomark _)
theorem sx_ne (hu : X.A.units + 64 < cLine) (ha : PE X ea (SE B a)) (hb : PE X eb (SE B b)) (hK : X.K = B.K := by rfl) : PE X (.Compare ea [.NotEq] [eb] pos) (SE B (.op2 .ne a b)) := sx_cmp (opr_ne hu hK) ok_ne ha hb (nomark _)
theorem sp_ne (hu : X.A.units + 64 < cLine) (ha : PE X ea (SE B a)) (hb : PE X eb (SE B b)) (hK : X.K = B.K := by rfl) : PT X (.Compare ea [.NotEq] [eb] pos) (ST B (.op2 .ne a b)) := sp_cmp (opr_ne hu hK) ok_ne ha hb (nomark _)
theorem sx_lt (ha : PE X ea (SE B a)) (hb : PE X eb (SE B b)) : PE X (.Compare ea [.Lt] [eb] pos) (SE B (.op2 .lt a b)) := sx_cmp op_lt ok_lt ha hb (nomark _)
theorem sp_lt (ha : PE X ea (SE B a)) (hb : PE X eb (SE B b)) : PT X (.Compare ea [.Lt] [eb] pos) (ST B (.op2 .lt a b)) := sp_cmp op_lt ok_lt ha hb (nomark _)
theorem sx_le (ha : PE X ea (SE B a)) (hb : PE X eb (SE B b)) : PE X (.Compare ea [.LtE] [eb] pos) (SE B (.op2 .le a b)) := sx_cmp op_le ok_le ha hb (nomark _)
theorem sp_le (ha : PE X ea (SE B a)) (hb : PE X eb (SE B b)) : PT X (.Compare ea [.LtE] [eb] pos) (ST B (.op2 .le a b)) := sp_cmp op_le ok_le ha hb (nomark _)
theorem sx_gt (ha : PE X ea (SE B a)) (hb : PE X eb (SE B b)) : PE X (.Compare ea [.Gt] [eb] pos) (SE B (.op2 .gt a b)) := sx_cmp op_gt ok_gt ha hb (nomark _)
theorem sp_gt (ha : PE X ea (SE B a)) (hb : PE X eb (SE B b)) : PT X (.Compare ea [.Gt] [eb] pos) (ST B (.op2 .gt a b)) := sp_cmp op_gt ok_gt ha hb (nomark _)
theorem sx_ge (ha : PE X ea (SE B a)) (hb : PE X eb (SE B b)) : PE X (.Compare ea [.GtE] [eb] pos) (SE B (.op2 .ge a b)) := sx_cmp op_ge ok_ge ha hb (nomark _)
theorem sp_ge (ha : PE X ea (SE B a)) (hb : PE X eb (SE B b)) : PT X (.Compare ea [.GtE] [eb] pos) (ST B (.op2 .ge a b)) := sp_cmp op_ge ok_ge ha hb (nomark _)
theorem sx_in (hu : X.A.units + 65 < cLine) (ha : PE X ea (SE B a)) (hb : PE X eb (SE B b)) (hm : behindInMarks .In eb = false := by rfl) (hK : X.K = B.K := by rfl) : PE X (.Compare ea [.In] [eb] pos) (SE B (.op2 .In a b)) := sx_cmp (opr_in hu hK) ok_in ha hb hm
theorem sp_in (hu : X.A.units + 65 < cLine) (ha : PE X ea (SE B a)) (hb : PE X eb (SE B b)) (hm : behindInMarks .In eb = false := by rfl) (hK : X.K = B.K := by rfl) : PT X (.Compare ea [.In] [eb] pos) (ST B (.op2 .In a b)) := sp_cmp (opr_in hu hK) ok_in ha hb hm
theorem sx_nin (hu : X.A.units + 65 < cLine) (ha : PE X ea (SE B a)) (hb : PE X eb (SE B b)) (hm : behindInMarks .NotIn eb = false := by rfl) (hK : X.K = B.K := by rfl) : PE X (.Compare ea [.NotIn] [eb] pos) (SE B (.op2 .NotIn a b)) := sx_cmp (opr_nin hu hK) ok_nin ha hb hm
theorem sp_nin (hu : X.A.units + 65 < cLine) (ha : PE X ea (SE B a)) (hb : PE X eb (SE B b)) (hm : behindInMarks .NotIn eb = false := by rfl) (hK : X.K = B.K := by rfl) : PT X (.Compare ea [.NotIn] [eb] pos) (ST B (.op2 .NotIn a b)) := sp_cmp (opr_nin hu hK) ok_nin ha hb hm
/-! ### is None -/
theorem isNon_eq {K : PySem.W.Frag} {FA : Nat → Addr → Prop} {Z H : Hp} {d : D} {w v F} (r : R K FA Z H w d v F) : decide (v = .non) = isNon d := by
  cases d with
  | non => rw [r.1]; rfl
  | bl _ => rw [r.1]; rfl
  | int _ => rw [r.1]; rfl
  | str _ => rw [r.1.1]; rfl
  | fn _ => obtain ⟨⟨a, e, _⟩, _⟩ := r; rw [e]; rfl
  | scr _ => obtain ⟨⟨a, e, _⟩, _⟩ := r; rw [e]; rfl
  | tup _ => obtain ⟨a, _, e, _⟩ := r; rw [e]; rfl
  | lst _ => obtain ⟨a, _, _, e, _⟩ := r; rw [e]; rfl
  | dic _ _ => obtain ⟨a, _, e, _⟩ := r; rw [e]; rfl
theorem ok_isN : Ok1 B (app1 .isN) (fun x H Q => Q (.bl (decide (x = .non))) H) := by
  intro d d' v w F Z H Q hs r he k
  have e : d' = .bl (isNon d) := by cases d <;> simp [app1] at he <;> exact he.symm
  subst e
  rw [isNon_eq r]
  exact k _ fun w => ⟨rfl, rfl⟩
theorem ok_isNN : Ok1 B (app1 .isNN) (fun x H Q => Q (.bl (!decide (x = .non))) H) := by
  intro d d' v w F Z H Q hs r he k
  have e : d' = .bl (!isNon d) := by cases d <;> simp [app1] at he <;> exact he.symm
  subst e
  rw [isNon_eq r]
  exact k _ fun w => ⟨rfl, rfl⟩
variable {j : Nat} {p' : Pos}
theorem sx_isN {j} (ha : PE X ea (SE B a)) : PE X (.Compare ea [.Is] [.Constant .none j p'] pos) (SE B (.op1 .isN a)) := (pe_cmp (pc_isN ha) rfl).imp fun _ _ _ h => se1 ok_isN h
theorem sp_isN {j} (ha : PE X ea (SE B a)) : PT X (.Compare ea [.Is] [.Constant .none j p'] pos) (ST B (.op1 .isN a)) := (pt_cmp (pc_isN ha) rfl).imp fun _ _ _ h => st1 ok_isN h
theorem sx_isNN {j} (ha : PE X ea (SE B a)) : PE X (.Compare ea [.IsNot] [.Constant .none j p'] pos) (SE B (.op1 .isNN a)) := (pe_cmp (pc_notN ha) rfl).imp fun _ _ _ h => se1 ok_isNN h
theorem sp_isNN {j} (ha : PE X ea (SE B a)) : PT X (.Compare ea [.IsNot] [.Constant .none j p'] pos) (ST B (.op1 .isNN a)) := (pt_cmp (pc_notN ha) rfl).imp fun _ _ _ h => st1 ok_isNN h
end
end BS

set_option Elab.async false
set_option linter.all false
set_option maxRecDepth 100000
set_option maxHeartbeats 2000000
namespace BS
open PySem PySem.Spec PyProof.Rows L2
section
variable {X : Cx} {B : Bk} {pos p : Pos} {ea eb : Expr} {a b : Ex}
/-! ### calls of built-ins: one argument, two -/
theorem cb1 {r : List V → Hp → VK → Prop} {o : Op1} (hr : Ok1 B (app1 o) (fun v H Q => r [v] H Q)) {σ H Q} (h : SE B (.op1 o a) σ H Q) : tCB r (tCons (SE B a) tNil) σ H Q := se1 hr h
theorem cb2 {r : List V → Hp → VK → Prop} {o : Op2} (hr : Ok2 B (app2 o) (fun v u H Q => r [v, u] H Q)) {σ H Q} (h : SE B (.op2 o a b) σ H Q) : tCB r (tCons (SE B a) (tCons (SE B b) tNil)) σ H Q := se2 hr h
theorem CallR.or {f : Value} {r r' : List V → Hp → VK → Prop} (h : CallR X f r) (h' : CallR X f r') : CallR X f (fun xs H Q => r xs H Q ∨ r' xs H Q) :=
  fun pins s σ H xs us Q I rx w => w.elim (h pins s σ H xs us Q I rx) (h' pins s σ H xs us Q I rx)
theorem call_lenR : CallR X (.builtin "len") (fun xs H Q => ∃ a kvs, xs = [V.ref a] ∧ Rd H a (.dK kvs) ∧ Q (.int kvs.length) H) := by
  intro pins s σ H xs us Q I r h
  obtain ⟨a, kvs, rfl, ha, q⟩ := h
  obtain ⟨u, rfl, ru⟩ := vals1 r
  cases ru
  exact d_len I ha fun t s' I' => ⟨.int kvs.length, H, I', ⟨t, rfl⟩, q⟩
theorem RK_len {K : PySem.W.Frag} {FA : Nat → Addr → Prop} {Z H : Hp} : ∀ {l : List (D × D)} {w v F}, RK K FA Z H w l v F → v.length = l.length
  | [], _, _, _, h => by rw [h.1]; rfl
  | (_, d) :: l, _, _, _, ⟨_, _, _, _, _, e0, _, h1, h2, e⟩ => by rw [e0]; simp [RK_len h2]
theorem ok_len : Ok1 B (app1 .len) (fun v H Q => (∃ x n, [v] = [x] ∧ LenV B.K x H n ∧ Q (.int n) H) ∨ ∃ a kvs, [v] = [V.ref a] ∧ Rd H a (.dK kvs) ∧ Q (.int kvs.length) H) := by
  intro d d' v w F Z H Q hs r he k
  simp only [app1, Option.map_eq_some_iff] at he
  obtain ⟨n, he, rfl⟩ := he
  cases d with
  | str s =>
    simp only [lenD, Option.some.injEq] at he
    subst he
    exact .inl ⟨v, s.length, rfl, by rw [r.1.1]; exact ⟨r.1.2.1, rfl⟩, k _ fun w => ⟨rfl, rfl⟩⟩
  | lst xs =>
    simp only [lenD, Option.some.injEq] at he
    subst he
    obtain ⟨q, vs, G, e, hq, hr, ef⟩ := r
    exact .inl ⟨v, xs.length, rfl, by rw [e]; exact .inl ⟨vs, hq.sub hs, (Rs_len hr).symm⟩, k _ fun w => ⟨rfl, rfl⟩⟩
  | tup xs =>
    simp only [lenD, Option.some.injEq] at he
    subst he
    obtain ⟨q, vs, e, hq, hr⟩ := r
    exact .inl ⟨v, xs.length, rfl, by rw [e]; exact .inr ⟨vs, SqT.of (tup_sub hs hq), (Rs_len hr).symm⟩, k _ fun w => ⟨rfl, rfl⟩⟩
  | scr xs =>
    simp only [lenD, Option.some.injEq] at he
    subst he
    obtain ⟨⟨q, e, hq⟩, ef⟩ := r
    exact .inl ⟨v, xs.length, rfl, by rw [e]; exact .inl ⟨_, SqL.sub hs hq, by simp⟩, k _ fun w => ⟨rfl, rfl⟩⟩
  | dic t kvs =>
    cases t with
    | false =>
      simp only [lenD, Option.some.injEq] at he
      subst he
      obtain ⟨q, G, e, hq, ef⟩ := r
      rcases hq with ⟨_, kv, c, hn, hr⟩ | ⟨z, _⟩
      · refine .inr ⟨q, kv, by rw [e], c.sub hs trivial, ?_⟩
        rw [RK_len hr]
        exact k _ fun w => ⟨rfl, rfl⟩
      · cases z
    | true => simp [lenD] at he
  | _ => simp [lenD] at he
theorem sx_len (hg : Gl X "len") (hm : X.mg "len" = none) (ha : PE X ea (SE B a)) (hK : X.K = B.K := by rfl) (he : starEach [ea] X.env = [(false, eval ea X.env)] := by rfl) : PE X (.Call (.Name "len" p) [ea] [] pos) (SE B (.op1 .len a)) :=
  (pe_callB (CallR.or (hK ▸ call_len) call_lenR) hg hm PySem.boot_len (pa_cons ha pa_nil he) (by decide) (by decide) he).imp fun _ _ _ h => cb1 ok_len h
theorem ok_int : Ok1 B (app1 .int) (fun v H Q => ((∃ i, [v] = [.int i] ∧ Q (.int i) H) ∨ ∃ k, [v] = [.bl k] ∧ Q (.int (if k then 1 else 0)) H) ∨ ∃ a n, [v] = [.str a] ∧ PySem.intText? a = some n ∧ a.length ≤ 640 ∧ Q (.int n) H) := by
  intro d d' v w F Z H Q hs r he k
  cases d <;> simp [app1] at he
  · subst he
    exact .inl (.inr ⟨_, by rw [r.1], k _ fun w => ⟨rfl, rfl⟩⟩)
  · subst he
    exact .inl (.inl ⟨_, by rw [r.1], k _ fun w => ⟨rfl, rfl⟩⟩)
  · obtain ⟨hl, n, hn, rfl⟩ := he
    exact .inr ⟨_, n, by rw [r.1.1], hn, hl, k _ fun w => ⟨rfl, rfl⟩⟩
theorem boot_int' : bootBuiltins "int" = some (.type "int") := by decide +kernel
theorem boot_str' : bootBuiltins "str" = some (.type "str") := by decide +kernel
theorem boot_bool' : bootBuiltins "bool" = some (.type "bool") := by decide +kernel
theorem boot_list' : bootBuiltins "list" = some (.type "list") := by decide +kernel
theorem boot_tuple' : bootBuiltins "tuple" = some (.type "tuple") := by decide +kernel
theorem boot_dict' : bootBuiltins "dict" = some (.type "dict") := by decide +kernel
theorem boot_isinstance' : bootBuiltins "isinstance" = some (.builtin "isinstance") := by decide +kernel
theorem boot_abs' : bootBuiltins "abs" = some (.builtin "abs") := by decide +kernel
theorem boot_max' : bootBuiltins "max" = some (.builtin "max") := by decide +kernel
theorem boot_min' : bootBuiltins "min" = some (.builtin "min") := by decide +kernel
theorem sx_int1 (hg : Gl X "int") (hm : X.mg "int" = none) (ha : PE X ea (SE B a)) (he : starEach [ea] X.env = [(false, eval ea X.env)] := by rfl) : PE X (.Call (.Name "int" p) [ea] [] pos) (SE B (.op1 .int a)) :=
  (pe_callTy (CallR.or call_int1 call_int_str) hg hm boot_int' (pa_cons ha pa_nil he) (by decide) (by decide) he).imp fun _ _ _ h => cb1 ok_int h
theorem ok_abs : Ok1 B (app1 .abs) (fun v H Q => ∃ i, [v] = [.int i] ∧ Q (.int (if i < 0 then -i else i)) H) := by
  intro d d' v w F Z H Q hs r he k
  cases d <;> simp [app1] at he
  subst he
  exact ⟨_, by rw [r.1], k _ fun w => ⟨rfl, rfl⟩⟩
theorem sx_abs (hg : Gl X "abs") (hm : X.mg "abs" = none) (ha : PE X ea (SE B a)) (he : starEach [ea] X.env = [(false, eval ea X.env)] := by rfl) : PE X (.Call (.Name "abs" p) [ea] [] pos) (SE B (.op1 .abs a)) :=
  (pe_callB call_abs hg hm boot_abs' (pa_cons ha pa_nil he) (by decide) (by decide) he).imp fun _ _ _ h => cb1 ok_abs h
theorem strOk_repr (i : Int) : PyData.strOk (Str.ofString (toString i)) = true := strOk_iff.mpr fun c hc => Nat.lt_trans (PySem.W.KSb.asc_num i c hc) (by decide)
theorem ok_str : Ok1 B (app1 .str) (fun v H Q => ∃ i, [v] = [.int i] ∧ i.natAbs.log2 < 1920 ∧ Q (.str (toString i)) H) := by
  intro d d' v w F Z H Q hs r he k
  cases d with
  | int i =>
    simp only [app1] at he
    split at he
    · rename_i hl
      cases he
      exact ⟨i, by rw [r.1], hl, k _ fun w => ⟨⟨rfl, PySem.int_text_fits hl, strOk_repr i⟩, rfl⟩⟩
    · cases he
  | _ => simp [app1] at he
theorem sx_str1 (hg : Gl X "str") (hm : X.mg "str" = none) (ha : PE X ea (SE B a)) (he : starEach [ea] X.env = [(false, eval ea X.env)] := by rfl) : PE X (.Call (.Name "str" p) [ea] [] pos) (SE B (.op1 .str a)) :=
  (pe_callTy call_str_int hg hm boot_str' (pa_cons ha pa_nil he) (by decide) (by decide) he).imp fun _ _ _ h => cb1 ok_str h
theorem ok_max : Ok2 B (app2 .max) (fun v u H Q => ∃ i j, [v, u] = [.int i, .int j] ∧ Q (.int (if j > i then j else i)) H) := by
  intro a b d' v u w w' F F' Z H Q hs r1 r2 he k
  cases a <;> cases b <;> simp [app2] at he
  subst he
  exact ⟨_, _, by rw [r1.1, r2.1], k _ fun w => ⟨rfl, rfl⟩⟩
theorem ok_min : Ok2 B (app2 .min) (fun v u H Q => ∃ i j, [v, u] = [.int i, .int j] ∧ Q (.int (if j < i then j else i)) H) := by
  intro a b d' v u w w' F F' Z H Q hs r1 r2 he k
  cases a <;> cases b <;> simp [app2] at he
  subst he
  exact ⟨_, _, by rw [r1.1, r2.1], k _ fun w => ⟨rfl, rfl⟩⟩
theorem sx_max2 (hg : Gl X "max") (hm : X.mg "max" = none) (ha : PE X ea (SE B a)) (hb : PE X eb (SE B b)) (hc : X.calm = true := by rfl) (he : starEach [ea, eb] X.env = (false, eval ea X.env) :: starEach [eb] X.env := by rfl) (he2 : starEach [eb] X.env = [(false, eval eb X.env)] := by rfl)
    (hpl : (backTo pos (starEach [eb] X.env)).any (·.1) = false := by rfl) : PE X (.Call (.Name "max" p) [ea, eb] [] pos) (SE B (.op2 .max a b)) :=
  (pe_callB (call_max2 hc) hg hm boot_max' (pa_cons ha (pa_cons hb pa_nil he2) he) (by decide) (by decide) he hpl).imp fun _ _ _ h => cb2 ok_max h
theorem sx_min2 (hg : Gl X "min") (hm : X.mg "min" = none) (ha : PE X ea (SE B a)) (hb : PE X eb (SE B b)) (hc : X.calm = true := by rfl) (he : starEach [ea, eb] X.env = (false, eval ea X.env) :: starEach [eb] X.env := by rfl) (he2 : starEach [eb] X.env = [(false, eval eb X.env)] := by rfl)
    (hpl : (backTo pos (starEach [eb] X.env)).any (·.1) = false := by rfl) : PE X (.Call (.Name "min" p) [ea, eb] [] pos) (SE B (.op2 .min a b)) :=
  (pe_callB (call_min2 hc) hg hm boot_min' (pa_cons ha (pa_cons hb pa_nil he2) he) (by decide) (by decide) he hpl).imp fun _ _ _ h => cb2 ok_min h
/-! ### isinstance -/
def tyN : Ty → String
  | .int => "int" | .str => "str" | .bool => "bool" | .list => "list" | .tuple => "tuple" | .dict => "dict"
def tyD : D → String
  | .non => "NoneType" | .bl _ => "bool" | .int _ => "int" | .str _ => "str" | .lst _ => "list" | .tup _ => "tuple" | .dic _ _ => "dict" | _ => ""
theorem kit_all : ∀ t : Ty, kitB "NoneType" (tyN t) = some (tyOf t .non) ∧ kitB "bool" (tyN t) = some (tyOf t (.bl true)) ∧ kitB "int" (tyN t) = some (tyOf t (.int 0)) ∧ kitB "str" (tyN t) = some (tyOf t (.str Str.empty)) ∧
    kitB "list" (tyN t) = some (tyOf t (.lst [])) ∧ kitB "tuple" (tyN t) = some (tyOf t (.tup [])) ∧ kitB "dict" (tyN t) = some (tyOf t (.dic false [])) := by
  intro t
  cases t <;> decide +kernel
theorem ok_isi (t : Ty) : Ok1 B (app1 (.isi t)) (fun v H Q => rIsi B.K [v, .ty (tyN t)] H Q) := by
  intro d d' v w F Z H Q hs r he k
  obtain ⟨k1, k2, k3, k4, k5, k6, k7⟩ := kit_all t
  cases d with
  | non =>
    simp only [app1, Option.some.injEq] at he
    subst he
    exact ⟨v, _, _, _, _, rfl, .ty _, by rw [r.1]; exact .base .non, kit_ty k1, k _ fun w => ⟨rfl, rfl⟩⟩
  | bl x =>
    simp only [app1, Option.some.injEq] at he
    subst he
    refine ⟨v, _, _, _, _, rfl, .ty _, by rw [r.1]; exact .base (.bl x), kit_ty k2, ?_⟩
    have e : tyOf t (.bl x) = tyOf t (.bl true) := by cases t <;> rfl
    rw [← e]
    exact k _ fun w => ⟨rfl, rfl⟩
  | int x =>
    simp only [app1, Option.some.injEq] at he
    subst he
    refine ⟨v, _, _, _, _, rfl, .ty _, by rw [r.1]; exact .base (.int x), kit_ty k3, ?_⟩
    have e : tyOf t (.int x) = tyOf t (.int 0) := by cases t <;> rfl
    rw [← e]
    exact k _ fun w => ⟨rfl, rfl⟩
  | str x =>
    simp only [app1, Option.some.injEq] at he
    subst he
    refine ⟨v, _, _, _, _, rfl, .ty _, by rw [r.1.1]; exact .base (.str x), kit_ty k4, ?_⟩
    have e : tyOf t (.str x) = tyOf t (.str Str.empty) := by cases t <;> rfl
    rw [← e]
    exact k _ fun w => ⟨rfl, rfl⟩
  | lst x =>
    simp only [app1, Option.some.injEq] at he
    subst he
    obtain ⟨q, vs, G, e, hq, hr, ef⟩ := r
    refine ⟨v, _, _, _, _, rfl, .ty _, by rw [e]; exact .base (.lst (hq.sub' hs)), kit_ty k5, ?_⟩
    have e : tyOf t (.lst x) = tyOf t (.lst []) := by cases t <;> rfl
    rw [← e]
    exact k _ fun w => ⟨rfl, rfl⟩
  | tup x =>
    simp only [app1, Option.some.injEq] at he
    subst he
    obtain ⟨q, vs, e, hq, hr⟩ := r
    refine ⟨v, _, _, _, _, rfl, .ty _, by rw [e]; exact .base (.tup (tup_sub hs hq)), kit_ty k6, ?_⟩
    have e : tyOf t (.tup x) = tyOf t (.tup []) := by cases t <;> rfl
    rw [← e]
    exact k _ fun w => ⟨rfl, rfl⟩
  | dic tt x =>
    cases tt with
    | true => simp [app1] at he
    | false =>
      simp only [app1, Option.some.injEq] at he
      subst he
      obtain ⟨q, G, e, hq, ef⟩ := r
      rcases hq with ⟨_, kv, c, hn, hr⟩ | ⟨z, _⟩
      · refine ⟨v, _, _, _, _, rfl, .ty _, ?_, kit_ty k7, ?_⟩
        · rw [e]
          rcases CAt.sub hs (o := .dK kv) trivial c with y | ⟨o, y⟩
          · exact .base (.dK y)
          · exact .fDict y
        · have e : tyOf t (.dic false x) = tyOf t (.dic false []) := by cases t <;> rfl
          rw [← e]
          exact k _ fun w => ⟨rfl, rfl⟩
      · cases z
  | _ => simp [app1] at he
theorem sx_isi (t : Ty) {x : Str} {p2 : Pos} (hx : bootBuiltins x = some (.type (tyN t))) (hg : Gl X "isinstance") (hm : X.mg "isinstance" = none) (hgx : Gl X x) (hmx : X.mg x = none) (ha : PE X ea (SE B a)) (hK : X.K = B.K := by rfl)
    (hn : x ≠ "__name__" := by decide) (hd : (x == ("__debug__" : Str)) = false := by decide)
    (he : starEach [ea, .Name x p2] X.env = (false, eval ea X.env) :: starEach [.Name x p2] X.env := by rfl) (he2 : starEach [.Name x p2] X.env = [(false, eval (.Name x p2) X.env)] := by rfl) (hpl : (backTo pos (starEach [.Name x p2] X.env)).any (·.1) = false := by rfl) :
    PE X (.Call (.Name "isinstance" p) [ea, .Name x p2] [] pos) (SE B (.op1 (.isi t) a)) :=
  (pe_callB (show CallR X (.builtin "isinstance") (rIsi B.K) from hK ▸ call_isi) hg hm boot_isinstance' (pa_cons ha (pa_cons (pe_bltn (v := .ty (tyN t)) hgx hmx hx rfl hn hd) pa_nil he2) he) (by decide) (by decide) he hpl).imp fun _ _ _ h => se1 (ok_isi t) h
/-! ### a module's tuple of texts -/
def inGl (B : Bk) (a : Ex) (neg : Bool) (xs : List Str) : TE := fun σ H Q => SE B a σ H fun v H1 => ∃ s, v = .str s ∧ Q (.bl (if neg then !xs.contains s else xs.contains s)) H1
theorem ev_inG {Φ : Phi} {neg : Bool} {xs : List Str} {E E' : En} {x : Val} (h : ev Φ (.inG neg a xs) E = some (x, E')) : ∃ s w, ev Φ a E = some ((.str s, w), E') ∧ x = (.bl (if neg then !xs.contains s else xs.contains s), .deep) := by
  simp only [ev, Option.bind_eq_bind, Option.bind_eq_some_iff, Prod.exists] at h
  obtain ⟨y, w, E1, h1, h⟩ := h
  cases y with
  | str s =>
    simp only [Option.some.injEq, Prod.mk.injEq] at h
    obtain ⟨rfl, rfl⟩ := h
    exact ⟨s, w, h1, rfl⟩
  | _ => cases h
theorem inG_se {neg : Bool} {xs : List Str} {σ H Q} (h : SE B (.inG neg a xs) σ H Q) : inGl B a neg xs σ H Q := by
  obtain ⟨Z, E, Fs, x, E', st, he, k⟩ := h
  obtain ⟨s, w, h1, rfl⟩ := ev_inG he
  exact ⟨Z, E, Fs, _, E', st, h1, fun v H1 Z1 F1 Fs1 p => ⟨s, p.val.1.1, k _ H1 Z1 [] Fs1 (p.plain (d := .bl _) (u := .bl _) fun w => ⟨rfl, rfl⟩)⟩⟩
theorem inG_in {xs : List Str} {neg : Bool} {t : Addr} (ht : ∀ H, SqT B.K H t (xs.map V.str)) {σ H Q} (h : inGl B a neg xs σ H Q) : tOp (rIn B.K neg) (SE B a) (tC (.ref t)) σ H Q := by
  obtain ⟨Z, E, Fs, x, E', st, he, k⟩ := h
  refine ⟨Z, E, Fs, x, E', st, he, fun v H' Z' Fd Fs' p => ?_⟩
  obtain ⟨s, rfl, q⟩ := k v H' Z' Fd Fs' p
  refine ⟨t, xs.map V.str, rfl, .inr (ht _), rfl, ?_, ?_⟩
  · rw [List.all_map]
    exact List.all_eq_true.mpr fun _ _ => rfl
  · have e : inV (.str s) (xs.map V.str) = xs.contains s := by
      unfold inV
      rw [List.any_map, List.contains_eq_any_beq]
      congr 1
      funext y
      show (y == s) = (s == y)
      exact Bool.beq_comm
    rw [e]
    exact q
theorem sx_inG {x : Str} {p2 : Pos} {xs : List Str} {t : Addr} (hg : Gl X x) (hm : X.mg x = some (.ref t)) (ht : ∀ H, SqT B.K H t (xs.map V.str)) (ha : PE X ea (SE B a)) (hK : X.K = B.K := by rfl) (hd : (x == ("__debug__" : Str)) = false := by decide) :
    PE X (.Compare ea [.In] [.Name x p2] pos) (SE B (.inG false a xs)) :=
  (pe_cmpR (hK ▸ op_in_seq) ha (pe_glob (v := .ref t) hg hm rfl hd) (by rfl)).imp fun _ _ _ h => inG_in ht (inG_se h)
theorem sx_ninG {x : Str} {p2 : Pos} {xs : List Str} {t : Addr} (hg : Gl X x) (hm : X.mg x = some (.ref t)) (ht : ∀ H, SqT B.K H t (xs.map V.str)) (ha : PE X ea (SE B a)) (hK : X.K = B.K := by rfl) (hd : (x == ("__debug__" : Str)) = false := by decide) :
    PE X (.Compare ea [.NotIn] [.Name x p2] pos) (SE B (.inG true a xs)) :=
  (pe_cmpR (hK ▸ op_notIn_seq) ha (pe_glob (v := .ref t) hg hm rfl hd) (by rfl)).imp fun _ _ _ h => inG_in ht (inG_se h)
end
end BS

set_option Elab.async false
set_option linter.all false
set_option maxRecDepth 100000
set_option maxHeartbeats 2000000
namespace BS
open PySem PySem.Spec PyProof.Rows L2
section
variable {X : Cx} {B : Bk} {pos p : Pos} {ea eb ec : Expr} {a b c : Ex}
/-! ### a if c else b -/
theorem ev_ife {Φ : Phi} {E E' : En} {x : Val} (h : ev Φ (.ife c a b) E = some (x, E')) : ∃ k w E1, ev Φ c E = some ((.bl k, w), E1) ∧ if k = true then ∃ y E2, ev Φ a E1 = some (y, E2) ∧ (x, E') = esc a y E2 else ∃ y E2, ev Φ b E1 = some (y, E2) ∧ (x, E') = esc b y E2 := by
  simp only [ev, Option.bind_eq_bind, Option.bind_eq_some_iff, Prod.exists] at h
  obtain ⟨y, w, E1, h1, h⟩ := h
  cases y with
  | bl k =>
    cases k with
    | true =>
      simp only [Option.bind_eq_some_iff, Prod.exists] at h
      obtain ⟨z, w2, E2, h2, h⟩ := h
      simp only [Option.some.injEq] at h
      exact ⟨true, w, E1, h1, by simp only [if_true]; exact ⟨(z, w2), E2, h2, h.symm⟩⟩
    | false =>
      simp only [Option.bind_eq_some_iff, Prod.exists] at h
      obtain ⟨z, w2, E2, h2, h⟩ := h
      simp only [Option.some.injEq] at h
      exact ⟨false, w, E1, h1, by simp only [Bool.false_eq_true, if_false]; exact ⟨(z, w2), E2, h2, h.symm⟩⟩
  | _ => cases h
theorem ife_se {σ H Q} (h : SE B (.ife c a b) σ H Q) : tIf (ST B c) (SE B a) (SE B b) σ H Q := by
  obtain ⟨Z, E, Fs, x, E', st, he, k⟩ := h
  obtain ⟨kc, wc, E1, h1, h2⟩ := ev_ife he
  refine ⟨Z, E, Fs, kc, wc, E1, st, h1, fun H1 Z1 Fs1 s1 c1 => ?_⟩
  have fin : ∀ (e : Ex), (∀ i, i ∈ wr c ++ wrx e → i ∈ wr (.ife c a b)) → (∃ y E2, ev B.Φ e E1 = some (y, E2) ∧ (x, E') = esc e y E2) → SE B e σ H1 Q := fun e hsub ⟨y, E2, h2, h3⟩ => by
    refine se_x ⟨Z1, E1, Fs1, y, E2, s1, h2, fun v H2 Z2 Fd Fs2 p => ?_⟩
    rw [← h3] at p
    refine k v H2 Z2 Fd Fs2 ⟨p.st, (c1.trans p.ch).mono hsub, p.val, fun _ => ?_, fun _ _ z => (by simp [pr] at z)⟩
    obtain ⟨n1, n2, n3⟩ := p.ex rfl
    refine ⟨n1, n2, fun q hq => ?_⟩
    rcases n3 q hq with z | z
    · exact .inl (c1.free z)
    · rcases c1.wc z with y | y
      · exact .inr (y.mono hsub)
      · exact .inl y
  cases kc with
  | true =>
    simp only [if_true] at h2 ⊢
    refine fin a (fun i hi => ?_) h2
    simp only [wr, wrx, List.mem_append] at hi ⊢
    rcases hi with z | z
    · exact .inl z
    · exact .inr (.inl z)
  | false =>
    simp only [Bool.false_eq_true, if_false] at h2 ⊢
    refine fin b (fun i hi => ?_) h2
    simp only [wr, wrx, List.mem_append] at hi ⊢
    rcases hi with z | z
    · exact .inl z
    · exact .inr (.inr z)
theorem sx_ife (hc : PT X ec (ST B c)) (ha : PE X ea (SE B a)) (hb : PE X eb (SE B b)) : PE X (.IfExp ec ea eb pos) (SE B (.ife c a b)) := (pe_ifExp hc ha hb).imp fun _ _ _ => ife_se
/-! ### {} -/
theorem sx_dct0 : PE X (.Dict [] [] pos) (SE B (.dct0 false)) := by
  refine pe_dnewK.imp fun σ H Q h => ?_
  obtain ⟨Z, E, Fs, x, E', st, he, k⟩ := h
  simp only [ev, Option.some.injEq, Prod.mk.injEq] at he
  obtain ⟨rfl, rfl⟩ := he
  intro p hp
  refine k _ _ Z [p] Fs ⟨st.laid hp, (Chg.refl _ _ _ _ _).laid hp, ⟨p, [], rfl, .inl ⟨rfl, [], upd_same, List.nodup_nil, rfl, rfl⟩, rfl⟩, fun _ => ⟨?_, fun a ha => ?_, fun a ha => ?_⟩, fun _ _ z => (by simp [pr] at z)⟩
  · exact List.nodup_cons.mpr ⟨fun m => st.re.there m hp, st.nd⟩
  · have e : a = p := by simpa using ha
    rw [e]
    exact st.sub.none hp
  · have e : a = p := by simpa using ha
    rw [e]
    exact .inl hp
theorem sx_dct0T : PE X (.Dict [] [] pos) (SE B (.dct0 true)) := by
  refine pe_dnewT.imp fun σ H Q h => ?_
  obtain ⟨Z, E, Fs, x, E', st, he, k⟩ := h
  simp only [ev, Option.some.injEq, Prod.mk.injEq] at he
  obtain ⟨rfl, rfl⟩ := he
  intro p hp
  refine k _ _ Z [p] Fs ⟨st.laid hp, (Chg.refl _ _ _ _ _).laid hp, ⟨p, [], rfl, .inr ⟨rfl, [], upd_same, List.nodup_nil, rfl, rfl⟩, rfl⟩, fun _ => ⟨?_, fun a ha => ?_, fun a ha => ?_⟩, fun _ _ z => (by simp [pr] at z)⟩
  · exact List.nodup_cons.mpr ⟨fun m => st.re.there m hp, st.nd⟩
  · have e : a = p := by simpa using ha
    rw [e]
    exact st.sub.none hp
  · have e : a = p := by simpa using ha
    rw [e]
    exact .inl hp
/-! ### parts of a value in a new list -/
theorem plain_k : ∀ {d : D}, plain d = true → kplain d = true
  | .non, _ => rfl
  | .bl _, _ => rfl
  | .int _, _ => rfl
  | .str _, _ => rfl
  | .fn _, _ => rfl
  | .scr _, _ => rfl
  | .tup _, h => h
  | .lst _, h => by simp at h
  | .dic _ _, h => by simp at h
def kpr (e : Ex) (x : Val) : Option (Nat × Bool) := if kplain x.1 then pr e else none
theorem Pe.kesc {K : PySem.W.Frag} {FA : Nat → Addr → Prop} {Z Z' H H' : Hp} {w : List Nat} {e : Ex} {E E1 : En} {Fs Fs1 : List (List Addr)} {σ : Sl} {x : Val} {v : V} {Fd : List Addr} (p : Pe K FA w (pr e) Z H E Fs σ x E1 v Z' H' Fd Fs1) :
    ∃ Z'' Fd'' Fs'', Pe K FA ((if isPl e then [root e] else []) ++ w) (kpr e x) Z H E Fs σ (BS.kesc e x E1).1 (BS.kesc e x E1).2 v Z'' H' Fd'' Fs'' := by
  cases hp : isPl e with
  | false =>
    have ep : pr e = none := by simp [pr, hp]
    refine ⟨Z', Fd, Fs1, ?_⟩
    have ek : BS.kesc e x E1 = (x, E1) := by simp [BS.kesc, hp]
    have ekp : kpr e x = none := by unfold kpr; rw [ep]; split <;> rfl
    rw [ek, ekp]
    rw [ep] at p
    exact p
  | true =>
    cases hk : kplain x.1 with
    | true =>
      refine ⟨Z', Fd, Fs1, ?_⟩
      have ek : BS.kesc e x E1 = (x, E1) := by simp [BS.kesc, hp, hk]
      have ekp : kpr e x = pr e := by simp [kpr, hk]
      rw [ek, ekp]
      exact p.mono fun i hi => List.mem_append_right _ hi
    | false =>
      have hx : BS.plain x.1 = false := by
        cases q : BS.plain x.1 with
        | false => rfl
        | true => rw [plain_k q] at hk; cases hk
      have ek : BS.kesc e x E1 = BS.esc e x E1 := by simp [BS.kesc, BS.esc, hp, hk, hx]
      have ekp : kpr e x = none := by simp [kpr, hk]
      rw [ek, ekp]
      have := p.esc
      rw [hp] at this
      exact this
/-- what a new list of parts bears -/
theorem new_list {K : PySem.W.Frag} {FA : Nat → Addr → Prop} {Z Z' H H' : Hp} {w : List Nat} {E E1 : En} {Fs Fs1 : List (List Addr)} {σ : Sl} {ys : List D} {vs : List V} {G : List Addr} {u : Ow} {q : Addr}
    (st : Stt K FA Z' H' E1 σ Fs1) (ch : Chg w Z H E Fs Z' H' E1 Fs1) (r : Rs K FA Z' H' (kid u) ys vs G) (hq : H' q = none)
    (ex : plains ys = false → u = .deep → (G ++ Fs1.flatten).Nodup ∧ (∀ a ∈ G, Z' a = none) ∧ ∀ a ∈ G, H a = none ∨ WC Fs w a) :
    ∃ Fd, Pe K FA w none Z H E Fs σ (newLst ys u) E1 (.ref q) Z' (upd H' q (.lst vs)) Fd Fs1 := by
  have fresh : H q = none := ch.free hq
  have mk : ∀ (w' : Ow) (G' : List Addr), w' ≠ .sh → Rs K FA Z' H' (kid w') ys vs G' → (G' ++ Fs1.flatten).Nodup → (∀ a ∈ G', Z' a = none) → (∀ a ∈ G', H a = none ∨ WC Fs w a) →
      Pe K FA w none Z H E Fs σ (.lst ys, w') E1 (.ref q) Z' (upd H' q (.lst vs)) (q :: G') Fs1 := fun w' G' hw r' n1 n2 n3 => by
    have ne : ∀ a ∈ G', a ≠ q := fun a ha z => Rs_there ys r' ha (z ▸ hq)
    refine ⟨st.laid hq, ch.laid hq, ⟨q, vs, G', rfl, ?_, Rs_keep (Le.refl _) _ (fun a ha => upd_ne (ne a ha)) r', ?_⟩, fun _ => ⟨?_, fun a ha => ?_, fun a ha => ?_⟩, fun _ _ z => (by cases z)⟩
    · cases w'
      · exact absurd rfl hw
      · exact upd_same
      · exact upd_same
    · cases w'
      · exact absurd rfl hw
      · rfl
      · rfl
    · refine List.nodup_cons.mpr ⟨fun m => ?_, n1⟩
      rcases List.mem_append.mp m with m | m
      · exact ne q m rfl
      · exact st.re.there m hq
    · rcases List.mem_cons.mp ha with rfl | ha
      · exact st.sub.none hq
      · exact n2 a ha
    · rcases List.mem_cons.mp ha with rfl | ha
      · exact .inl fresh
      · exact n3 a ha
  unfold newLst
  cases hp : plains ys with
  | true =>
    obtain ⟨e0, kr⟩ := Rs_plain ys hp r
    simp only [if_true]
    exact ⟨[q], mk .deep [] (by decide) (kr _ _) (by simpa using st.nd) (fun _ m => (by cases m)) fun _ m => (by cases m)⟩
  | false =>
    simp only [Bool.false_eq_true, if_false]
    by_cases hu : u = .deep
    · rw [if_pos hu]
      subst hu
      obtain ⟨n1, n2, n3⟩ := ex hp rfl
      exact ⟨q :: G, mk .deep G (by decide) r n1 n2 n3⟩
    · rw [if_neg hu]
      have r' : Rs K FA Z' H' .sh ys vs G := by
        cases u
        · exact r
        · exact r
        · exact absurd rfl hu
      have e0 := Rs_sh ys r'
      subst e0
      exact ⟨[q], mk .top [] (by decide) r' (by simpa using st.nd) (fun _ m => (by cases m)) fun _ m => (by cases m)⟩
/-- a slice's end -/
def SO (B : Bk) (e : Ex) : TO := fun σ H Q => ∃ Z E Fs x E' o, Stt B.K B.FA Z H E σ Fs ∧ ev B.Φ e E = some (x, E') ∧ sliceI e x.1 = some o ∧ ∀ H' Z' Fs', Stt B.K B.FA Z' H' E' σ Fs' → Chg (wr e) Z H E Fs Z' H' E' Fs' → Q o H'
theorem so_some (h : PE X ea (SE B a)) (hn : a ≠ .non := by intro h; cases h) : PO X (some ea) (SO B a) := by
  refine ⟨fun pins s σ H Q I hq => ?_⟩
  refine (po_some h).run pins s σ H Q I ?_
  obtain ⟨Z, E, Fs, ⟨x, w⟩, E', o, st, he, hs, k⟩ := hq
  refine ⟨Z, E, Fs, (x, w), E', st, he, fun v H' Z' Fd Fs' p => ?_⟩
  cases x with
  | int i =>
    have e : o = some i := by
      cases a <;> first | exact absurd rfl hn | (simp [sliceI] at hs; exact hs.symm)
    subst e
    exact ⟨i, p.val.1, k H' Z' Fs' p.st p.ch⟩
  | _ => cases a <;> first | exact absurd rfl hn | simp [sliceI] at hs
theorem so_none : PO X none (SO B .non) := by
  refine ⟨fun pins s σ H Q I hq => ?_⟩
  refine po_none.run pins s σ H Q I ?_
  obtain ⟨Z, E, Fs, x, E', o, st, he, hs, k⟩ := hq
  simp only [ev, Option.some.injEq, Prod.mk.injEq] at he
  obtain ⟨rfl, rfl⟩ := he
  simp only [sliceI, Option.some.injEq] at hs
  subst hs
  exact k H Z Fs st (Chg.refl _ _ _ _ _)
theorem ev_sl {Φ : Phi} {E E' : En} {x : Val} (h : ev Φ (.sl a b c) E = some (x, E')) : ∃ y E1 l E2 u E3 lo hi, ev Φ a E = some (y, E1) ∧ brw a (wr b ++ wr c) (kesc a y E1).1 = true ∧ ev Φ b (kesc a y E1).2 = some (l, E2) ∧ ev Φ c E2 = some (u, E3) ∧
    sliceI b l.1 = some lo ∧ sliceI c u.1 = some hi ∧ slD lo hi (kesc a y E1).1.1 (kesc a y E1).1.2 = some x ∧ E' = E3 := by
  simp only [ev, Option.bind_eq_bind, Option.bind_eq_some_iff, Prod.exists] at h
  obtain ⟨y, w, E1, h1, h⟩ := h
  by_cases hb : brw a (wr b ++ wr c) (kesc a (y, w) E1).1 = true
  · rw [if_pos hb] at h
    simp only [Option.bind_eq_some_iff, Prod.exists] at h
    obtain ⟨l, wl, E2, h2, u, wu, E3, h3, lo, h4, hi, h5, r, rw', h6, h7⟩ := h
    simp only [Option.some.injEq, Prod.mk.injEq] at h7
    obtain ⟨rfl, rfl⟩ := h7
    exact ⟨(y, w), E1, (l, wl), E2, (u, wu), E3, lo, hi, h1, hb, h2, h3, h4, h5, h6, rfl⟩
  · rw [if_neg hb] at h
    cases h
theorem strOk_cut {s : Str} {lo hi : Option Int} (h : PyData.strOk s = true) : PyData.strOk (cutS s lo hi) = true := by
  rw [strOk_iff] at h ⊢
  intro d hd
  refine h d ?_
  have : d ∈ ((s.cps.toList.drop (HT.sIx s.length 0 lo)).take (HT.sIx s.length s.length hi - HT.sIx s.length 0 lo)) := by simpa [cutS] using hd
  exact List.mem_of_mem_drop (List.mem_of_mem_take this)
theorem len_cut {s : Str} {lo hi : Option Int} : (cutS s lo hi).length ≤ s.length := by
  show ((s.cps.toList.drop _).take _).toArray.size ≤ s.cps.size
  simp
  omega
theorem sx_sl {p2 : Pos} {lo hi : Option Expr} (ha : PE X ea (SE B a)) (hl : PO X lo (SO B b)) (hh : PO X hi (SO B c)) (hK : X.K = B.K := by rfl) : PE X (.Subscript ea (.Slice lo hi none p2) pos) (SE B (.sl a b c)) := by
  refine (((pe_slice sl_list ha hl hh).or (pe_slice sl_str ha hl hh)).or (pe_slice sl_tup ha hl hh)).imp fun σ H Q h => ?_
  obtain ⟨Z, E, Fs, x, E', st, he, k⟩ := h
  obtain ⟨y, E1, l, E2, u, E3, lo, hi, h1, hb, h2, h3, h4, h5, h6, rfl⟩ := ev_sl he
  have key : ∀ {r : V → Option Int → Option Int → Hp → VK → Prop}, (∀ v H3 Z3 Fd Fs3, Stt B.K B.FA Z3 H3 E' σ Fs3 → Chg (wr (.sl a b c)) Z H E Fs Z3 H3 E' Fs3 → R B.K B.FA Z3 H3 (kesc a y E1).1.2 (kesc a y E1).1.1 v Fd →
      (plains (match (kesc a y E1).1.1 with | .lst ys => ys | .tup ys => ys | _ => []) = false → (Fd ++ Fs3.flatten).Nodup ∧ (∀ a ∈ Fd, Z3 a = none) ∧ ∀ a' ∈ Fd, H a' = none ∨ WC Fs (wr (.sl a b c)) a') → r v lo hi H3 Q) →
      tSl r (SE B a) (SO B b) (SO B c) σ H Q := fun {r} f => by
    refine ⟨Z, E, Fs, y, E1, st, h1, fun v H1 Z0 Fd0 Fs0 p0 => ?_⟩
    obtain ⟨Z1, Fd, Fs1, p⟩ := p0.kesc
    refine ⟨Z1, _, Fs1, l, E2, lo, p.st, h2, h4, fun H2 Z2 Fs2 s2 c2 => ?_⟩
    refine ⟨Z2, E2, Fs2, u, E', hi, s2, h3, h5, fun H3 Z3 Fs3 s3 c3 => ?_⟩
    have c23 := c2.trans c3
    have cAll := (p.ch.trans c23)
    have hbk : ∀ i b', kpr a y = some (i, b') → plain (kesc a y E1).1.1 = true ∨ i ∉ wr b ++ wr c := fun i b' e => by
      unfold kpr at e
      split at e
      · exact brw_ok hb i b' e
      · cases e
    obtain ⟨_, kr⟩ := p.keep c23 hbk
    have sub : ∀ i, i ∈ ((if isPl a then [root a] else []) ++ wr a) ++ (wr b ++ wr c) → i ∈ wr (.sl a b c) := fun i hi => by
      simp only [wr, List.mem_append] at hi ⊢
      rcases hi with (z | z) | z
      · exact .inl z
      · exact .inr (.inl z)
      · exact .inr (.inr z)
    refine f v H3 Z3 Fd Fs3 s3 (cAll.mono sub) kr fun hpl => ?_
    have e0 : kpr a y = none := by
      unfold kpr
      split
      · rename_i hk
        cases hp : isPl a with
        | false => simp [pr, hp]
        | true =>
          -- a place whose parts are plain: nothing to show
          have ek : kesc a y E1 = (y, E1) := by simp [kesc, hp, hk]
          rw [ek] at hpl
          obtain ⟨yd, yw⟩ := y
          cases yd <;> simp_all
      · rfl
    rw [e0] at p
    obtain ⟨n1, n2, n3⟩ := p.apart c23
    obtain ⟨m1, m2, m3⟩ := p.ex rfl
    refine ⟨List.nodup_append.mpr ⟨(List.nodup_append.mp m1).1, s3.nd, fun q hq q' hq' => ?_⟩, n2, fun q hq => (m3 q hq).imp id fun y => y.mono fun i hi => sub i (List.mem_append_left _ hi)⟩
    rintro rfl
    exact n1 q hq hq'
  generalize kesc a y E1 = yk at *
  obtain ⟨⟨yd, yw⟩, E1'⟩ := yk
  cases yd with
  | lst ys =>
    refine .inl (.inl (key fun v H3 Z3 Fd Fs3 s3 c3 r ex => ?_))
    simp only [slD, Option.some.injEq] at h6
    subst h6
    obtain ⟨p, vs, G, rfl, hq, hr, ef⟩ := r
    refine ⟨p, vs, rfl, hK ▸ hq.sub s3.sub, fun q hq' => ?_⟩
    obtain ⟨G1, r1, s1⟩ := Rs_drop (HT.sIx ys.length 0 lo) hr
    obtain ⟨G2, r2, s2⟩ := Rs_take (HT.sIx ys.length ys.length hi - HT.sIx ys.length 0 lo) r1
    have ecut : cutV vs lo hi = (vs.drop (HT.sIx ys.length 0 lo)).take (HT.sIx ys.length ys.length hi - HT.sIx ys.length 0 lo) := by
      unfold cutV
      rw [Rs_len hr]
    rw [ecut]
    obtain ⟨Fd', q⟩ := new_list (u := yw) s3 c3 r2 hq' fun hpl hdeep => by
      subst hdeep
      obtain ⟨n1, n2, n3⟩ := ex (by
        show plains ys = false
        cases q : plains ys with
        | false => rfl
        | true =>
          have sub : ∀ (l : List D), plains l = true ↔ ∀ d ∈ l, plain d = true := fun l => by
            induction l with
            | nil => simp
            | cons d l ih => simp [ih]
          rw [(sub _).mpr fun d hd => (sub ys).mp q d (List.mem_of_mem_drop (List.mem_of_mem_take hd))] at hpl
          cases hpl)
      have ss : ∀ a' ∈ G2, a' ∈ Fd := fun a' ha => by
        rw [ef]
        exact List.mem_cons_of_mem _ ((s2.trans s1).subset ha)
      refine ⟨List.nodup_append.mpr ⟨((List.nodup_append.mp n1).1).sublist (by rw [ef]; exact (s2.trans s1).trans (List.sublist_cons_self _ _)), s3.nd, fun q hq q' hq' => ?_⟩, fun a' ha => n2 a' (ss a' ha), fun a' ha => n3 a' (ss a' ha)⟩
      rintro rfl
      exact absurd rfl ((List.nodup_append.mp n1).2.2 q (ss q hq) q hq')
    exact k _ _ Z3 Fd' Fs3 q
  | str s =>
    refine .inl (.inr (key fun v H3 Z3 Fd Fs3 s3 c3 r ex => ?_))
    simp only [slD, Option.some.injEq] at h6
    subst h6
    refine ⟨s, r.1.1, r.1.2.1, ?_⟩
    refine k _ H3 Z3 [] Fs3 ⟨s3, c3, ⟨⟨rfl, Nat.le_trans len_cut r.1.2.1, strOk_cut r.1.2.2⟩, rfl⟩, fun _ => ⟨by simpa using s3.nd, fun _ m => (by cases m), fun _ m => (by cases m)⟩, fun _ _ z => (by simp [pr] at z)⟩
  | tup ys =>
    refine .inr (key fun v H3 Z3 Fd Fs3 s3 c3 r ex => ?_)
    simp only [slD] at h6
    split at h6
    · cases h6
    · rename_i hnw
      simp only [Option.some.injEq] at h6
      subst h6
      obtain ⟨p, vs, rfl, hq, hr⟩ := r
      refine ⟨p, vs, rfl, SqT.of (tup_sub s3.sub hq), by rw [Rs_len hr]; exact hnw, fun q hq' => ?_⟩
      obtain ⟨G1, r1, s1⟩ := Rs_drop (HT.sIx ys.length 0 lo) hr
      obtain ⟨G2, r2, s2⟩ := Rs_take (HT.sIx ys.length ys.length hi - HT.sIx ys.length 0 lo) r1
      have ecut : cutV vs lo hi = (vs.drop (HT.sIx ys.length 0 lo)).take (HT.sIx ys.length ys.length hi - HT.sIx ys.length 0 lo) := by
        unfold cutV
        rw [Rs_len hr]
      rw [ecut]
      have zp := s3.sub.none hq'
      have le : Le Z3 (upd Z3 q (.tup ((vs.drop (HT.sIx ys.length 0 lo)).take (HT.sIx ys.length ys.length hi - HT.sIx ys.length 0 lo)))) := upd_keep zp
      have ne : ∀ a' ∈ G2, a' ≠ q := fun a' ha z => Rs_there _ r2 ha (z ▸ hq')
      have rr : R B.K B.FA (upd Z3 q (.tup ((vs.drop (HT.sIx ys.length 0 lo)).take (HT.sIx ys.length ys.length hi - HT.sIx ys.length 0 lo)))) (upd H3 q (.tup ((vs.drop (HT.sIx ys.length 0 lo)).take (HT.sIx ys.length ys.length hi - HT.sIx ys.length 0 lo)))) yw
          (.tup ((ys.drop (HT.sIx ys.length 0 lo)).take (HT.sIx ys.length ys.length hi - HT.sIx ys.length 0 lo))) (.ref q) G2 := ⟨q, _, rfl, upd_same, Rs_keep le _ (fun a' ha => upd_ne (ne a' ha)) r2⟩
      cases hpl : plains ys with
      | true =>
        obtain ⟨e1, kr⟩ := Rs_plain ys hpl hr
        have e2 : G2 = [] := List.sublist_nil.mp (by rw [← e1]; exact s2.trans s1)
        subst e2
        exact k _ _ _ [] Fs3 ⟨s3.laidZ hq', c3.laidZ s3.sub hq', R_vl rr, fun _ => ⟨by simpa using s3.nd, fun _ m => (by cases m), fun _ m => (by cases m)⟩, fun _ _ z => (by simp [pr] at z)⟩
      | false =>
        obtain ⟨n1, n2, n3⟩ := ex hpl
        have ss : ∀ a' ∈ G2, a' ∈ Fd := fun a' ha => (s2.trans s1).subset ha
        refine k _ _ _ G2 Fs3 ⟨s3.laidZ hq', c3.laidZ s3.sub hq', R_vl rr, fun _ => ⟨List.nodup_append.mpr ⟨((List.nodup_append.mp n1).1).sublist (s2.trans s1), s3.nd, fun b hb b' hb' => ?_⟩, fun a' ha => ?_, fun a' ha => n3 a' (ss a' ha)⟩, fun _ _ z => (by simp [pr] at z)⟩
        · rintro rfl
          exact absurd rfl ((List.nodup_append.mp n1).2.2 b (ss b hb) b hb')
        · rw [upd_ne (ne a' ha)]
          exact n2 a' (ss a' ha)
  | _ => simp [slD] at h6
end
end BS

set_option Elab.async false
set_option linter.all false
set_option maxRecDepth 100000
set_option maxHeartbeats 2000000
namespace BS
open PySem PySem.Spec PyProof.Rows L2
section
variable {X : Cx} {B : Bk} {pos p : Pos} {ea eb ec : Expr} {a b c : Ex}
theorem ev_cat {Φ : Phi} {E E' : En} {x : Val} (h : ev Φ (.cat a b) E = some (x, E')) : ∃ x0 E1 y0 E2 xs w ys u, ev Φ a E = some (x0, E1) ∧ brw a (wr b) (kesc a x0 E1).1 = true ∧ ev Φ b (kesc a x0 E1).2 = some (y0, E2) ∧
    (kesc a x0 E1).1 = (.lst xs, w) ∧ (kesc b y0 E2).1 = (.lst ys, u) ∧ xs.length + ys.length ≤ line ∧ ((w = .deep ∧ u = .deep) ∨ ((w ≠ .deep ∨ plains xs = true) ∧ (u ≠ .deep ∨ plains ys = true))) ∧ x = newLst (xs ++ ys) (if w = .deep ∧ u = .deep then .deep else .sh) ∧ E' = (kesc b y0 E2).2 := by
  simp only [ev, Option.bind_eq_bind, Option.bind_eq_some_iff, Prod.exists] at h
  obtain ⟨x0, w0, E1, h1, h⟩ := h
  by_cases hb : brw a (wr b) (kesc a (x0, w0) E1).1 = true
  · rw [if_pos hb] at h
    simp only [Option.bind_eq_some_iff, Prod.exists] at h
    obtain ⟨y0, u0, E2, h2, h⟩ := h
    generalize e1 : (kesc a (x0, w0) E1).1 = xx at h hb
    generalize e2 : (kesc b (y0, u0) E2).1 = yy at h
    obtain ⟨xd, xw⟩ := xx
    obtain ⟨yd, yw⟩ := yy
    cases xd with
    | lst xs =>
      cases yd with
      | lst ys =>
        simp only at h
        split at h
        · rename_i hc
          simp only [Option.some.injEq, Prod.mk.injEq] at h
          obtain ⟨rfl, rfl⟩ := h
          exact ⟨(x0, w0), E1, (y0, u0), E2, xs, xw, ys, yw, h1, by rw [e1]; exact hb, h2, e1, e2, hc.1, hc.2, rfl, rfl⟩
        · cases h
      | _ => simp at h
    | _ => simp at h
  · rw [if_neg hb] at h
    cases h
theorem kesc_content (e : Ex) (x : Val) (E : En) : (kesc e x E).1.1 = x.1 := by
  unfold kesc
  split <;> rfl
theorem kpr_none {e : Ex} {x : Val} {E : En} {xs : List D} {w : Ow} (h : (kesc e x E).1 = (.lst xs, w)) (hp : plains xs = false) : kpr e x = none := by
  have e1 : x.1 = .lst xs := by rw [← kesc_content e x E, h]
  unfold kpr
  rw [e1, kplain_lst, hp]
  rfl
theorem kbrw {e : Ex} {x : Val} {E : En} {w : List Nat} (h : brw e w (kesc e x E).1 = true) : ∀ i b', kpr e x = some (i, b') → plain (kesc e x E).1.1 = true ∨ i ∉ w := fun i b' q => by
  unfold kpr at q
  split at q
  · exact brw_ok h i b' q
  · cases q
theorem plains_app : ∀ (xs ys : List D), plains (xs ++ ys) = (plains xs && plains ys)
  | [], ys => rfl
  | x :: xs, ys => by simp [plains_app xs ys, Bool.and_assoc]
theorem sx_cat (ha : PE X ea (SE B a)) (hb : PE X eb (SE B b)) : PE X (.BinOp ea .Add eb pos) (SE B (.cat a b)) := by
  refine (pe_op op_cat ha hb).imp fun σ H Q h => ?_
  obtain ⟨Z, E, Fs, x, E', st, he, k⟩ := h
  obtain ⟨x0, E1, y0, E2, xs, w, ys, u, h1, hb, h2, e1, e2, hl, hc, rfl, rfl⟩ := ev_cat he
  refine ⟨Z, E, Fs, x0, E1, st, h1, fun v H1 Z0 Fd0 Fs0 p0 => ?_⟩
  obtain ⟨Z1, Fd1, Fs1, p⟩ := p0.kesc
  refine ⟨Z1, _, Fs1, y0, E2, p.st, h2, fun v2 H2 Z20 Fd20 Fs20 q0 => ?_⟩
  obtain ⟨Z2, Fd2, Fs2, q⟩ := q0.kesc
  have sub : ∀ i, i ∈ ((if isPl a then [root a] else []) ++ wr a) ++ ((if isPl b then [root b] else []) ++ wr b) → i ∈ wr (.cat a b) := fun i hi => by simpa only [wr] using hi
  have cAll := (p.ch.trans q.ch).mono sub
  have eq1 : kesc a x0 E1 = ((.lst xs, w), (kesc a x0 E1).2) := by rw [← e1]
  have eq2 : kesc b y0 E2 = ((.lst ys, u), (kesc b y0 E2).2) := by rw [← e2]
  -- the first one, behind the second
  have frm : (∀ z ∈ Fd1, H2 z = H1 z) ∧ R B.K B.FA Z2 H2 w (.lst xs) v Fd1 := by
    have nr : ∀ i b', kpr a x0 = some (i, b') → plain (kesc a x0 E1).1.1 = true ∨ i ∉ wr b := kbrw hb
    -- the second's own escape doesn't touch the first's cells
    have hv := p.val
    rw [e1] at hv
    have k1 := p.keep q0.ch nr
    rw [e1] at k1
    refine ⟨k1.1, ?_⟩
    have le : Le Z1 Z2 := q.ch.le
    exact R_keep le _ k1.1 hv
  have hy := q.val
  rw [e2] at hy
  obtain ⟨p1, vs, G1, rfl, hq1, r1, ef1⟩ := frm.2
  obtain ⟨p2, us, G2, rfl, hq2, r2, ef2⟩ := hy
  refine ⟨p1, p2, vs, us, rfl, rfl, LAt.sub' q.st.sub hq1, LAt.sub' q.st.sub hq2, by rw [Rs_len r1, Rs_len r2]; exact hl, fun t ht => ?_⟩
  -- what the parts are, all of one flag
  have fin : ∀ (u' : Ow) (A C : List Addr), Rs B.K B.FA Z2 H2 (kid u') xs vs A → Rs B.K B.FA Z2 H2 (kid u') ys us C →
      (plains (xs ++ ys) = false → u' = .deep → ((A ++ C) ++ Fs2.flatten).Nodup ∧ (∀ z ∈ A ++ C, Z2 z = none) ∧ ∀ z ∈ A ++ C, H z = none ∨ WC Fs (wr (.cat a b)) z) →
      newLst (xs ++ ys) u' = newLst (xs ++ ys) (if w = .deep ∧ u = .deep then .deep else .sh) → Q (.ref t) (upd H2 t (.lst (vs ++ us))) := fun u' A C ra rc ex en => by
    obtain ⟨Fd, r⟩ := new_list (u := u') q.st cAll (Rs_app ra rc) ht ex
    rw [en] at r
    exact k _ _ Z2 Fd Fs2 r
  by_cases hd : w = .deep ∧ u = .deep
  · obtain ⟨rfl, rfl⟩ := hd
    refine fin .deep G1 G2 r1 r2 (fun hpl _ => ?_) (by simp)
    rw [plains_app] at hpl
    have x1 : (∀ z ∈ G1, z ∉ Fs2.flatten) ∧ (∀ z ∈ G1, Z2 z = none) ∧ (∀ z ∈ G1, H z = none ∨ WC Fs (wr (.cat a b)) z) ∧ G1.Nodup ∧ (∀ z ∈ G1, z ∉ G2) := by
      cases hx : plains xs with
      | true =>
        obtain ⟨e0, _⟩ := Rs_plain xs hx r1
        subst e0
        exact ⟨fun _ m => (by cases m), fun _ m => (by cases m), fun _ m => (by cases m), List.nodup_nil, fun _ m => (by cases m)⟩
      | false =>
        have en := kpr_none e1 hx
        rw [en] at p
        obtain ⟨n1, n2, n3⟩ := p.apart q.ch
        obtain ⟨m1, m2, m3⟩ := p.ex rfl
        have ss : ∀ z ∈ G1, z ∈ Fd1 := fun z hz => by rw [ef1]; exact List.mem_cons_of_mem _ hz
        refine ⟨fun z hz => n1 z (ss z hz), fun z hz => n2 z (ss z hz), fun z hz => (m3 z (ss z hz)).imp id fun y => y.mono fun i hi => sub i (List.mem_append_left _ hi), ?_, fun z hz hz2 => ?_⟩
        · have := (List.nodup_append.mp m1).1
          rw [ef1] at this
          exact (List.nodup_cons.mp this).2
        · cases hy2 : plains ys with
          | true =>
            obtain ⟨e0, _⟩ := Rs_plain ys hy2 r2
            rw [e0] at hz2
            cases hz2
          | false =>
            have en2 := kpr_none e2 hy2
            rw [en2] at q
            obtain ⟨o1, o2, o3⟩ := q.ex rfl
            exact n3 z (ss z hz) (o3 z (by rw [ef2]; exact List.mem_cons_of_mem _ hz2))
    have x2 : (G2 ++ Fs2.flatten).Nodup ∧ (∀ z ∈ G2, Z2 z = none) ∧ (∀ z ∈ G2, H z = none ∨ WC Fs (wr (.cat a b)) z) := by
      cases hy2 : plains ys with
      | true =>
        obtain ⟨e0, _⟩ := Rs_plain ys hy2 r2
        subst e0
        exact ⟨by simpa using q.st.nd, fun _ m => (by cases m), fun _ m => (by cases m)⟩
      | false =>
        have en2 := kpr_none e2 hy2
        rw [en2] at q
        obtain ⟨o1, o2, o3⟩ := q.ex rfl
        have ss : ∀ z ∈ G2, z ∈ Fd2 := fun z hz => by rw [ef2]; exact List.mem_cons_of_mem _ hz
        refine ⟨?_, fun z hz => o2 z (ss z hz), fun z hz => ?_⟩
        · rw [ef2] at o1
          exact (List.nodup_cons.mp o1).2
        · rcases o3 z (ss z hz) with y | y
          · exact .inl (p.ch.free y)
          · rcases p.ch.wc y with y | y
            · exact .inr (y.mono sub)
            · exact .inl y
    refine ⟨?_, fun z hz => ?_, fun z hz => ?_⟩
    · rw [List.append_assoc]
      refine List.nodup_append.mpr ⟨x1.2.2.2.1, x2.1, fun z hz z' hz' => ?_⟩
      rintro rfl
      rcases List.mem_append.mp hz' with m | m
      · exact x1.2.2.2.2 z hz m
      · exact x1.1 z hz m
    · rcases List.mem_append.mp hz with m | m
      · exact x1.2.1 z m
      · exact x2.2.1 z m
    · rcases List.mem_append.mp hz with m | m
      · exact x1.2.2.1 z m
      · exact x2.2.2 z m
  · have hc' : (w ≠ .deep ∨ plains xs = true) ∧ (u ≠ .deep ∨ plains ys = true) := by
      rcases hc with z | z
      · exact absurd z hd
      · exact z
    have shx : ∀ {l : List D} {w' : Ow} {vs : List V} {G : List Addr}, (w' ≠ .deep ∨ plains l = true) → Rs B.K B.FA Z2 H2 (kid w') l vs G → Rs B.K B.FA Z2 H2 .sh l vs [] := fun {l w' vs G} hh rr => by
      rcases hh with z | z
      · have r' : Rs B.K B.FA Z2 H2 .sh l vs G := by
          cases w'
          · exact rr
          · exact rr
          · exact absurd rfl z
        have e0 := Rs_sh l r'
        subst e0
        exact r'
      · exact (Rs_plain l z rr).2 _ _
    exact fin .sh [] [] (shx hc'.1 r1) (shx hc'.2 r2) (fun _ z => by cases z) (by rw [if_neg hd])
end
end BS

set_option Elab.async false
set_option linter.all false
set_option maxRecDepth 100000
set_option maxHeartbeats 2000000
namespace BS
open PySem PySem.Spec PyProof.Rows L2
/-! ### footprints by slots, up to order -/
theorem set_perm : ∀ {Fs : List (List Addr)} {i : Nat} {F : List Addr}, i < Fs.length → (Fs.set i F).flatten.Perm (F ++ (Fs.set i []).flatten)
  | G :: Fs, 0, F, _ => by simp
  | G :: Fs, i + 1, F, h => by
    simp only [List.set_cons_succ, List.flatten_cons]
    have ih := set_perm (Fs := Fs) (i := i) (F := F) (by simpa using h)
    refine (List.Perm.append_left G ih).trans ?_
    rw [← List.append_assoc, ← List.append_assoc]
    exact List.Perm.append_right _ List.perm_append_comm
  | [], _, _, h => by simp at h
theorem unset_sub : ∀ {Fs : List (List Addr)} {i : Nat}, (Fs.set i []).flatten.Sublist Fs.flatten
  | [], _ => by simp
  | G :: Fs, 0 => by simp
  | G :: Fs, i + 1 => by
    simp only [List.set_cons_succ, List.flatten_cons]
    exact List.Sublist.append_left unset_sub G
theorem self_perm {Fs : List (List Addr)} {i : Nat} : Fs.flatten.Perm (Fs.getD i [] ++ (Fs.set i []).flatten) := by
  by_cases h : i < Fs.length
  · have := set_perm (Fs := Fs) (i := i) (F := Fs.getD i []) h
    rwa [set_self (by rw [List.getD_eq_getElem?_getD, List.getElem?_eq_getElem h]; rfl)] at this
  · rw [List.getD_eq_getElem?_getD, List.getElem?_eq_none (by simpa using h), List.set_eq_of_length_le (by simpa using h)]
    simp
theorem getD_set_ne {Fs : List (List Addr)} {i j : Nat} {F : List Addr} (h : i ≠ j) : (Fs.set i F).getD j [] = Fs.getD j [] := by
  rw [List.getD_eq_getElem?_getD, List.getElem?_set_ne h, ← List.getD_eq_getElem?_getD]
/-- handed slots -/
def ios : List Ar → List Nat
  | [] => []
  | .inl _ :: r => ios r
  | .inr i :: r => i :: ios r
def iosE : List Ex → List Nat
  | [] => []
  | .io i :: r => i :: iosE r
  | _ :: r => iosE r
section
variable {K : PySem.W.Frag} {FA : Nat → Addr → Prop} {Z Z' H H' : Hp}
def RA (K : PySem.W.Frag) (FA : Nat → Addr → Prop) (Z H : Hp) (σ : Sl) : List Ar → List V → List (List Addr) → Prop
  | [], [], [] => True
  | .inl x :: ars, v :: vs, F :: Fds => R K FA Z H x.2 x.1 v F ∧ RA K FA Z H σ ars vs Fds
  | .inr i :: ars, v :: vs, F :: Fds => (σ[i]? = some (some v) ∧ F = []) ∧ RA K FA Z H σ ars vs Fds
  | _, _, _ => False
structure Pas (K : PySem.W.Frag) (FA : Nat → Addr → Prop) (w : List Nat) (Z H : Hp) (E : En) (Fs : List (List Addr)) (σ : Sl) (ars : List Ar) (E' : En) (vs : List V) (Z' H' : Hp) (Fds Fs' : List (List Addr)) : Prop where
  st : Stt K FA Z' H' E' σ Fs'
  ch : Chg w Z H E Fs Z' H' E' Fs'
  val : RA K FA Z' H' σ ars vs Fds
  nd : (Fds.flatten ++ Fs'.flatten).Nodup
  zf : ∀ a ∈ Fds.flatten, Z' a = none
  fd : ∀ a ∈ Fds.flatten, H a = none ∨ WC Fs w a
theorem gat_R {σ : Sl} : ∀ {ars : List Ar} {vs : List V} {Fds : List (List Addr)} {E E2 : En} {Fs : List (List Addr)} {xs : List Val}, RA K FA Z H σ ars vs Fds → RE K FA Z H E σ Fs → gat ars E = some (xs, E2) →
    ∃ Fall Fs2, RL K FA Z H xs vs Fall ∧ RE K FA Z H E2 σ Fs2 ∧ (Fall.flatten ++ Fs2.flatten).Perm (Fds.flatten ++ Fs.flatten) ∧ (∀ a ∈ Fall.flatten, a ∈ Fds.flatten ∨ WC Fs (ios ars) a) ∧ (∀ j, j ∉ ios ars → Fs2.getD j [] = Fs.getD j [] ∧ E2[j]? = E[j]?) ∧ ∀ j a, a ∈ Fs2.getD j [] → a ∈ Fs.getD j []
  | [], [], [], E, E2, Fs, xs, _, hE, hg => by
    simp only [gat, Option.some.injEq, Prod.mk.injEq] at hg
    obtain ⟨rfl, rfl⟩ := hg
    exact ⟨[], Fs, trivial, hE, List.Perm.refl _, fun _ m => (by simp at m), fun _ _ => ⟨rfl, rfl⟩, fun _ _ h => h⟩
  | .inl x :: ars, v :: vs, F :: Fds, E, E2, Fs, xs, h, hE, hg => by
    simp only [gat, Option.bind_eq_bind, Option.bind_eq_some_iff, Prod.exists] at hg
    obtain ⟨ys, E1, h1, h2⟩ := hg
    simp only [Option.some.injEq, Prod.mk.injEq] at h2
    obtain ⟨rfl, rfl⟩ := h2
    obtain ⟨Fall, Fs2, a1, a2, a3, a4, a5, a6⟩ := gat_R h.2 hE h1
    refine ⟨F :: Fall, Fs2, ⟨h.1, a1⟩, a2, ?_, fun a ha => ?_, a5, a6⟩
    · simp only [List.flatten_cons, List.append_assoc]
      exact List.Perm.append_left F a3
    · rw [List.flatten_cons] at ha ⊢
      rcases List.mem_append.mp ha with m | m
      · exact .inl (List.mem_append_left _ m)
      · exact (a4 a m).imp (List.mem_append_right _) id
  | .inr i :: ars, v :: vs, F :: Fds, E, E2, Fs, xs, h, hE, hg => by
    obtain ⟨⟨hv, rfl⟩, hr⟩ := h
    unfold gat at hg
    cases e : E[i]? with
    | none => rw [e] at hg; cases hg
    | some o =>
      rw [e] at hg
      cases o with
      | none => cases hg
      | some x =>
        simp only [Option.bind_eq_bind, Option.bind_eq_some_iff, Prod.exists] at hg
        obtain ⟨ys, E1, h1, h2⟩ := hg
        simp only [Option.some.injEq, Prod.mk.injEq] at h2
        obtain ⟨rfl, rfl⟩ := h2
        obtain ⟨v', hv', ro⟩ := hE.get e
        rw [hv] at hv'
        cases hv'
        have ro : R K FA Z H x.2 x.1 v (Fs.getD i []) := ro
        have hE' : RE K FA Z H (E.set i none) σ (Fs.set i []) := hE.turn hv (show RO K FA Z H none (some v) [] from rfl)
        obtain ⟨Fall, Fs2, a1, a2, a3, a4, a5, a6⟩ := gat_R hr hE' h1
        refine ⟨Fs.getD i [] :: Fall, Fs2, ⟨ro, a1⟩, a2, ?_, fun a ha => ?_, fun j hj => ?_, fun j a ha => ?_⟩
        · simp only [List.flatten_cons, List.append_assoc, List.nil_append]
          refine (List.Perm.append_left _ a3).trans ?_
          rw [← List.append_assoc]
          refine (List.Perm.append_right _ List.perm_append_comm).trans ?_
          rw [List.append_assoc]
          exact List.Perm.append_left _ self_perm.symm
        · rw [List.flatten_cons] at ha ⊢
          rcases List.mem_append.mp ha with m | m
          · exact .inr ⟨i, List.mem_cons_self, m⟩
          · rcases a4 a m with y | ⟨j, hj, y⟩
            · exact .inl (List.mem_append_right _ y)
            · rcases getD_set y with ⟨_, z⟩ | ⟨_, z⟩
              · cases z
              · exact .inr ⟨j, List.mem_cons_of_mem _ hj, z⟩
        · have n1 : i ≠ j := fun z => hj (by rw [z]; exact List.mem_cons_self)
          obtain ⟨b1, b2⟩ := a5 j fun z => hj (List.mem_cons_of_mem _ z)
          rw [b1, b2, getD_set_ne n1, List.getElem?_set_ne n1]
          exact ⟨rfl, rfl⟩
        · rcases getD_set (a6 j a ha) with ⟨_, z⟩ | ⟨_, z⟩
          · cases z
          · exact z
  | [], [], _ :: _, _, _, _, _, h, _, _ => h.elim
  | [], _ :: _, _, _, _, _, _, h, _, _ => h.elim
  | .inl _ :: _, [], _, _, _, _, _, h, _, _ => h.elim
  | .inl _ :: _, _ :: _, [], _, _, _, _, h, _, _ => h.elim
  | .inr _ :: _, [], _, _, _, _, _, h, _, _ => h.elim
  | .inr _ :: _, _ :: _, [], _, _, _, _, h, _, _ => h.elim
/-- the handed slots are put back -/
theorem scat_R {σ : Sl} {Z1 H1 : Hp} : ∀ {ars : List Ar} {vs : List V} {Fds Fos Fs : List (List Addr)} {os : List (Option Val)} {E : En} {L : List Addr}, RA K FA Z1 H1 σ ars vs Fds → RE K FA Z H os (vs.map some) Fos → RE K FA Z H E σ Fs → (L ++ (Fos.flatten ++ Fs.flatten)).Nodup →
    ∃ Fs3, RE K FA Z H (scat ars os E) σ Fs3 ∧ (L ++ Fs3.flatten).Nodup ∧ (∀ j a, a ∈ Fs3.getD j [] → a ∈ Fs.getD j [] ∨ a ∈ Fos.flatten) ∧ ∀ j, j ∉ ios ars → Fs3.getD j [] = Fs.getD j [] ∧ (scat ars os E)[j]? = E[j]?
  | [], [], [], [], Fs, [], E, L, _, _, hE, n => by
    exact ⟨Fs, hE, by simpa using n, fun _ _ h => .inl h, fun _ _ => ⟨rfl, rfl⟩⟩
  | .inl x :: ars, v :: vs, F :: Fds, Fo :: Fos, Fs, o :: os, E, L, h, ho, hE, n => by
    have n' : (L ++ (Fos.flatten ++ Fs.flatten)).Nodup := n.sublist (List.Sublist.append_left (List.Sublist.append_right (by rw [List.flatten_cons]; exact List.sublist_append_right _ _) _) L)
    obtain ⟨Fs3, a1, a2, a3, a4⟩ := scat_R h.2 ho.2 hE n'
    exact ⟨Fs3, a1, a2, fun j a ha => (a3 j a ha).imp id fun m => by rw [List.flatten_cons]; exact List.mem_append_right _ m, a4⟩
  | .inr i :: ars, v :: vs, F :: Fds, Fo :: Fos, Fs, o :: os, E, L, h, ho, hE, n => by
    have hE' : RE K FA Z H (E.set i o) σ (Fs.set i Fo) := hE.turn h.1.1 ho.1
    have hil : i < Fs.length := by
      have := hE.length.2
      rw [this]
      exact (List.getElem?_eq_some_iff.mp h.1.1).1
    have n' : (L ++ (Fos.flatten ++ (Fs.set i Fo).flatten)).Nodup := by
      have e : (L ++ (Fos.flatten ++ (Fs.set i Fo).flatten)).Perm (L ++ ((Fo ++ Fos.flatten) ++ (Fs.set i []).flatten)) := by
        refine List.Perm.append_left L ?_
        refine (List.Perm.append_left _ (set_perm hil)).trans ?_
        rw [← List.append_assoc]
        exact List.Perm.append_right _ List.perm_append_comm
      refine e.nodup_iff.mpr (n.sublist ?_)
      rw [List.flatten_cons]
      exact List.Sublist.append_left (List.Sublist.append_left unset_sub _) L
    obtain ⟨Fs3, a1, a2, a3, a4⟩ := scat_R h.2 ho.2 hE' n'
    refine ⟨Fs3, a1, a2, fun j a ha => ?_, fun j hj => ?_⟩
    · rw [List.flatten_cons]
      rcases a3 j a ha with m | m
      · rcases getD_set m with ⟨_, z⟩ | ⟨_, z⟩
        · exact .inr (List.mem_append_left _ z)
        · exact .inl z
      · exact .inr (List.mem_append_right _ m)
    · have n1 : i ≠ j := fun z => hj (by rw [z]; exact List.mem_cons_self)
      obtain ⟨b1, b2⟩ := a4 j fun z => hj (List.mem_cons_of_mem _ z)
      show _ ∧ (scat ars os (E.set i o))[j]? = _
      rw [b1, b2, getD_set_ne n1, List.getElem?_set_ne n1]
      exact ⟨rfl, rfl⟩
  | [], [], [], _ :: _, _, _, _, _, _, ho, _, _ => by
    have := ho.length
    simp at this
  | [], [], [], [], _, _ :: _, _, _, _, ho, _, _ => by
    have := ho.length
    simp at this
  | [], [], _ :: _, _, _, _, _, _, h, _, _, _ => h.elim
  | [], _ :: _, _, _, _, _, _, _, h, _, _, _ => h.elim
  | .inl _ :: _, [], _, _, _, _, _, _, h, _, _, _ => h.elim
  | .inl _ :: _, _ :: _, [], _, _, _, _, _, h, _, _, _ => h.elim
  | .inl _ :: _, _ :: _, _ :: _, [], _, _, _, _, _, ho, _, _ => by
    have := ho.length
    simp at this
  | .inl _ :: _, _ :: _, _ :: _, _ :: _, _, [], _, _, _, ho, _, _ => by
    have := ho.length
    simp at this
  | .inr _ :: _, [], _, _, _, _, _, _, h, _, _, _ => h.elim
  | .inr _ :: _, _ :: _, [], _, _, _, _, _, h, _, _, _ => h.elim
  | .inr _ :: _, _ :: _, _ :: _, [], _, _, _, _, _, ho, _, _ => by
    have := ho.length
    simp at this
  | .inr _ :: _, _ :: _, _ :: _, _ :: _, _, [], _, _, _, ho, _, _ => by
    have := ho.length
    simp at this
/-! ### a def's promise -/
structure Pc (K : PySem.W.Frag) (FA : Nat → Addr → Prop) (Z H : Hp) (Fds : List (List Addr)) (r : Val) (os : List (Option Val)) (vs : List V) (v : V) (Z' H' : Hp) (Fd : List Addr) (Fos : List (List Addr)) : Prop where
  le : Le Z Z'
  zn : ∀ a u, Z' a = some u → Z a = some u ∨ a ∈ Fds.flatten ∨ H a = none
  sub : Sub Z' H'
  val : R K FA Z' H' r.2 r.1 v Fd
  outs : RE K FA Z' H' os (vs.map some) Fos
  nd : (Fd ++ Fos.flatten).Nodup
  zf : ∀ a ∈ Fd ++ Fos.flatten, Z' a = none
  fr : ∀ a ∈ Fd ++ Fos.flatten, a ∈ Fds.flatten ∨ H a = none
  frame : ∀ a u, H a = some u → a ∉ Fds.flatten → H' a = some u
  there : ∀ a, H a ≠ none → H' a ≠ none
def spV (K : PySem.W.Frag) (FA : Nat → Addr → Prop) (f : List Val → Option (Val × List (Option Val))) : Sp := fun vs H Q _ => ∃ Z xs Fds r os, Sub Z H ∧ RL K FA Z H xs vs Fds ∧ Fds.flatten.Nodup ∧ (∀ a ∈ Fds.flatten, Z a = none) ∧ f xs = some (r, os) ∧
  ∀ v H' Z' Fd Fos, Pc K FA Z H Fds r os vs v Z' H' Fd Fos → Q v H'
end
/-! ### arguments of a def's call -/
def SAs (B : Bk) (es : List Ex) : TA := fun σ H Q => ∃ Z E Fs ars E', Stt B.K B.FA Z H E σ Fs ∧ eva B.Φ es E = some (ars, E') ∧ ios ars = iosE es ∧
  ∀ vs H' Z' Fds Fs', Pas B.K B.FA (wrs es) Z H E Fs σ ars E' vs Z' H' Fds Fs' → Q vs H'
theorem eva_io {Φ : Phi} {i : Nat} {as : List Ex} {E E' : En} {ars : List Ar} (h : eva Φ (.io i :: as) E = some (ars, E')) : ∃ x r, E[i]? = some (some x) ∧ eva Φ as E = some (r, E') ∧ ars = .inr i :: r := by
  simp only [eva] at h
  cases e : E[i]? with
  | none => rw [e] at h; cases h
  | some o =>
    rw [e] at h
    cases o with
    | none => cases h
    | some x =>
      simp only [Option.bind_eq_bind, Option.bind_eq_some_iff, Prod.exists] at h
      obtain ⟨r, E1, h1, h2⟩ := h
      simp only [Option.some.injEq, Prod.mk.injEq] at h2
      obtain ⟨rfl, rfl⟩ := h2
      exact ⟨x, r, rfl, h1, rfl⟩
def notIo : Ex → Bool
  | .io _ => false
  | _ => true
theorem eva_cons {Φ : Phi} {a : Ex} {as : List Ex} {E E' : En} {ars : List Ar} (hn : notIo a = true) (h : eva Φ (a :: as) E = some (ars, E')) : ∃ x E1 r, ev Φ a E = some (x, E1) ∧ eva Φ as (esc a x E1).2 = some (r, E') ∧ ars = .inl (esc a x E1).1 :: r := by
  cases a with
  | io i => simp [notIo] at hn
  | _ =>
    simp only [eva, Option.bind_eq_bind, Option.bind_eq_some_iff, Prod.exists] at h
    obtain ⟨y, w, E1, h1, ys, E2, h2, h⟩ := h
    simp only [Option.some.injEq, Prod.mk.injEq] at h
    obtain ⟨rfl, rfl⟩ := h
    exact ⟨(y, w), E1, ys, h1, h2, rfl⟩
theorem iosE_cons {a : Ex} {as : List Ex} (hn : notIo a = true) : iosE (a :: as) = iosE as := by
  cases a <;> first | rfl | simp [notIo] at hn
theorem eva_ios {Φ : Phi} : ∀ {as : List Ex} {E E' : En} {ars : List Ar}, eva Φ as E = some (ars, E') → ios ars = iosE as
  | [], E, E', ars, h => by
    simp only [eva, Option.some.injEq, Prod.mk.injEq] at h
    obtain ⟨rfl, _⟩ := h
    rfl
  | a :: as, E, E', ars, h => by
    cases hn : notIo a with
    | true =>
      obtain ⟨x, E1, r, h1, h2, rfl⟩ := eva_cons hn h
      rw [iosE_cons hn]
      show ios r = iosE as
      exact eva_ios h2
    | false =>
      cases a <;> simp [notIo] at hn
      obtain ⟨_, r, _, h1, rfl⟩ := eva_io h
      show _ :: ios r = _ :: iosE as
      rw [eva_ios h1]
section
variable {X : Cx} {B : Bk} {pos p : Pos} {e : Expr} {es : List Expr} {a : Ex} {as : List Ex}
theorem sg_nil : PA X [] (SAs B []) := by
  refine pa_nil.imp fun σ H Q h => ?_
  obtain ⟨Z, E, Fs, xs, E', st, he, _, k⟩ := h
  simp only [eva, Option.some.injEq, Prod.mk.injEq] at he
  obtain ⟨rfl, rfl⟩ := he
  exact k [] H Z [] Fs ⟨st, Chg.refl _ _ _ _ _, trivial, by simpa using st.nd, fun _ m => (by simp at m), fun _ m => (by simp at m)⟩
theorem sg_cons (ha : PE X e (SE B a)) (hr : PA X es (SAs B as)) (hn : notIo a = true := by rfl) (hs : starEach (e :: es) X.env = (false, eval e X.env) :: starEach es X.env := by rfl) : PA X (e :: es) (SAs B (a :: as)) := by
  refine (pa_cons ha hr hs).imp fun σ H Q h => ?_
  obtain ⟨Z, E, Fs, xs, E', st, he, _, k⟩ := h
  obtain ⟨x, E1, ys, h1, h2, rfl⟩ := eva_cons hn he
  refine se_x ⟨Z, E, Fs, x, E1, st, h1, fun v H1 Z1 Fd Fs1 p => ⟨Z1, _, Fs1, ys, E', p.st, h2, eva_ios h2, fun vs H2 Z2 Fds Fs2 q => ?_⟩⟩
  refine k (v :: vs) H2 Z2 (Fd :: Fds) Fs2 ?_
  obtain ⟨_, kr⟩ := p.keep q.ch fun _ _ z => by cases z
  obtain ⟨a1, a2, a3⟩ := p.apart q.ch
  obtain ⟨nd, _, fd⟩ := p.ex rfl
  refine ⟨q.st, p.ch.trans q.ch, ⟨kr, q.val⟩, ?_, fun a ha => ?_, fun a ha => ?_⟩
  · rw [List.flatten_cons, List.append_assoc]
    refine List.nodup_append.mpr ⟨(List.nodup_append.mp nd).1, q.nd, fun a ha b hb => ?_⟩
    rintro rfl
    rcases List.mem_append.mp hb with z | z
    · exact a3 a ha (q.fd a z)
    · exact a1 a ha z
  · rw [List.flatten_cons] at ha
    rcases List.mem_append.mp ha with z | z
    · exact a2 a z
    · exact q.zf a z
  · rw [List.flatten_cons] at ha
    rcases List.mem_append.mp ha with z | z
    · exact (fd a z).imp id fun y => y.mono fun i hi => List.mem_append_left _ hi
    · rcases q.fd a z with y | y
      · exact .inl (p.ch.free y)
      · exact (p.ch.wc y).symm
theorem sg_io {i : Nat} {x : Str} (hN : X.N[i]? = some x) (hv : Vis X.env.scope x) (hr : PA X es (SAs B as)) (hd : (x == ("__debug__" : Str)) = false := by decide) (hcd : (x == ("__classdict__" : Str)) = false := by decide)
    (hs : starEach (.Name x p :: es) X.env = (false, eval (.Name x p) X.env) :: starEach es X.env := by rfl) : PA X (.Name x p :: es) (SAs B (.io i :: as)) := by
  refine (pa_cons (pe_var hN hv hd hcd) hr hs).imp fun σ H Q h => ?_
  obtain ⟨Z, E, Fs, ars, E', st, he, hio, k⟩ := h
  obtain ⟨x, r, hx, h1, rfl⟩ := eva_io he
  obtain ⟨v, hσ, ro⟩ := st.re.get hx
  cases v with
  | none => exact ro.elim
  | some v =>
    exact ⟨v, hσ, Z, E, Fs, r, E', st, h1, eva_ios h1, fun vs H' Z' Fds Fs' q => k (v :: vs) H' Z' ([] :: Fds) Fs' ⟨q.st, q.ch.mono fun j hj => List.mem_append_right _ hj, ⟨⟨hσ, rfl⟩, q.val⟩, by simpa using q.nd, fun a ha => q.zf a (by simpa using ha), fun a ha => (q.fd a (by simpa using ha)).imp id fun y => y.mono fun j hj => List.mem_append_right _ hj⟩⟩
/-- the call itself -/
theorem call_se {g : Nat} {E : XK} {σ H Q} (h : SE B (.call g as) σ H Q) : tCall (spV B.K B.FA (B.Φ g)) [] E (SAs B as) σ H Q := by
  obtain ⟨Z, En0, Fs, x, E', st, he, k⟩ := h
  simp only [ev, Option.bind_eq_bind, Option.bind_eq_some_iff, Prod.exists] at he
  obtain ⟨ars, E1, h1, he⟩ := he
  simp only [callG, Option.bind_eq_bind, Option.bind_eq_some_iff, Prod.exists] at he
  obtain ⟨xs, E2, h2, rd, rw', os, h3, he⟩ := he
  simp only [Option.some.injEq, Prod.mk.injEq] at he
  obtain ⟨rfl, rfl⟩ := he
  refine ⟨Z, En0, Fs, ars, E1, st, h1, eva_ios h1, fun vs H1 Z1 Fds Fs1 q => ?_⟩
  show spV B.K B.FA (B.Φ g) (vs ++ []) H1 Q E
  rw [List.append_nil]
  obtain ⟨Fall, Fs2, a1, a2, a3, a4, a5, a6⟩ := gat_R q.val q.st.re h2
  have nd2 : (Fall.flatten ++ Fs2.flatten).Nodup := a3.nodup_iff.mpr q.nd
  have io : ios ars = iosE as := eva_ios h1
  have iosub : ∀ i ∈ iosE as, i ∈ wrs as := by
    have : ∀ (l : List Ex), ∀ i ∈ iosE l, i ∈ wrs l := fun l => by
      induction l with
      | nil => intro i h; cases h
      | cons c l ih =>
        intro i h
        rw [show wrs (c :: l) = ((if isPl c then [root c] else []) ++ wr c) ++ wrs l by simp]
        cases hn : notIo c with
        | true =>
          rw [iosE_cons hn] at h
          exact List.mem_append_right _ (ih i h)
        | false =>
          cases c <;> simp [notIo] at hn
          rcases List.mem_cons.mp h with rfl | h
          · exact List.mem_append_left _ (by simp)
          · exact List.mem_append_right _ (ih i h)
    exact this as
  have mem1 : ∀ a ∈ Fall.flatten, a ∈ Fds.flatten ∨ WC Fs1 (wrs as) a := fun a ha => (a4 a ha).imp id fun y => y.mono fun i hi => iosub i (io ▸ hi)
  have zf1 : ∀ a ∈ Fall.flatten, Z1 a = none := fun a ha => by
    rcases a4 a ha with y | y
    · exact q.zf a y
    · exact q.st.zf a y.flat
  refine ⟨Z1, xs, Fall, (rd, rw'), os, q.st.sub, a1, (List.nodup_append.mp nd2).1, zf1, h3, fun v H2 Z2 Fd Fos c => ?_⟩
  -- the other slots stay
  have out2 : ∀ a ∈ Fs2.flatten, a ∉ Fall.flatten := fun a ha hb => (List.nodup_append.mp nd2).2.2 a hb a ha rfl
  have keep2 : ∀ a ∈ Fs2.flatten, H2 a = H1 a := fun a ha => by
    cases e : H1 a with
    | none => exact absurd e (a2.there ha)
    | some u => exact c.frame a u e (out2 a ha)
  have re2 := RE.keep c.le keep2 a2
  have nd3 : ((Fd ++ Fos.flatten) ++ Fs2.flatten).Nodup := by
    refine List.nodup_append.mpr ⟨c.nd, (List.nodup_append.mp nd2).2.1, fun a ha b hb => ?_⟩
    rintro rfl
    rcases c.fr a ha with y | y
    · exact out2 a hb y
    · exact a2.there hb y
  obtain ⟨Fs3, b1, b2, b3, b4⟩ := scat_R (L := Fd) q.val c.outs re2 (by rw [← List.append_assoc]; exact nd3)
  have z2 : ∀ a ∈ Fs2.flatten, Z2 a = none := fun a ha => by
    cases e : Z2 a with
    | none => rfl
    | some u =>
      obtain ⟨j, hj⟩ := of_flat ha
      rcases c.zn a u e with y | y | y
      · rw [q.st.zf a (mem_flat (a6 j a hj))] at y; cases y
      · exact absurd y (out2 a ha)
      · exact absurd y (a2.there ha)
  have zf3 : ∀ a ∈ Fs3.flatten, Z2 a = none := fun a ha => by
    obtain ⟨j, hj⟩ := of_flat ha
    rcases b3 j a hj with y | y
    · exact z2 a (mem_flat y)
    · exact c.zf a (List.mem_append_right _ y)
  have st3 : Stt B.K B.FA Z2 H2 (scat ars os E2) σ Fs3 := ⟨c.sub, b1, (List.nodup_append.mp b2).2.1, zf3⟩
  have wc1 : ∀ a, a ∈ Fall.flatten → H a = none ∨ WC Fs (wrs as) a := fun a ha => by
    rcases mem1 a ha with y | y
    · exact q.fd a y
    · rcases q.ch.wc y with z | z
      · exact .inr (z.mono fun i hi => (List.mem_append.mp hi).elim id id)
      · exact .inl z
  have ch3 : Chg (wrs as) Z H En0 Fs Z2 H2 (scat ars os E2) Fs3 := by
    refine ⟨q.ch.le.trans c.le, fun a u e => ?_, fun j a ha => ?_, fun a u e n => ?_, fun a h => c.there a (q.ch.there a h), fun j hj => ?_⟩
    · rcases c.zn a u e with y | y | y
      · exact q.ch.zn a u y
      · rcases wc1 a y with z | z
        · exact .inr (.inr z)
        · exact .inr (.inl z.flat)
      · exact .inr (.inr (q.ch.free y))
    · rcases b3 j a ha with y | y
      · exact q.ch.fr j a (a6 j a y)
      · rcases c.fr a (List.mem_append_right _ y) with z | z
        · exact .inr (wc1 a z)
        · exact .inr (.inl (q.ch.free z))
    · have e1 := q.ch.frame a u e n
      refine c.frame a u e1 fun z => ?_
      rcases wc1 a z with y | y
      · rw [y] at e; cases e
      · exact n y
    · have nj : j ∉ ios ars := fun z => hj (iosub j (io ▸ z))
      obtain ⟨c1, c2⟩ := b4 j nj
      obtain ⟨d1, d2⟩ := a5 j nj
      obtain ⟨e1, e2⟩ := q.ch.same j hj
      exact ⟨c2.trans (d2.trans e1), c1.trans (d1.trans e2)⟩
  refine k v H2 Z2 Fd Fs3 ⟨st3, ch3, c.val, fun _ => ⟨b2, fun a ha => c.zf a (List.mem_append_left _ ha), fun a ha => ?_⟩, fun _ _ z => (by simp [pr] at z)⟩
  rcases c.fr a (List.mem_append_left _ ha) with y | y
  · exact wc1 a y
  · exact .inl (q.ch.free y)
theorem sx_call {g : Nat} {n : Nat} {f : Addr} {fd : FuncData} {ps : List Str} {x : Str} (F : FnOk X.prog X.w X.K X.mg X.base CX0 n f fd ps (spV B.K B.FA (B.Φ g))) (hr : Room n X.A) (hg : Gl X x) (hm : X.mg x = some (.ref f)) (hk : PySem.W.keepIn X.K (.ref f) = true) (hb : Binds X.K fd ps [])
    (ha : PA X (e :: es) (SAs B as)) (hdb : (x == ("__debug__" : Str)) = false := by decide) (he : starEach (e :: es) X.env = (false, eval e X.env) :: starEach es X.env := by rfl) (hpl : (backTo pos (starEach es X.env)).any (·.1) = false := by rfl) :
    PE X (.Call (.Name x p) (e :: es) [] pos) (SE B (.call g as)) :=
  (pe_call F hr hg hm hk hb .nil (pass0 (X := X)) ha hdb he hpl).imp fun _ _ _ h => call_se h
theorem sx_call0 {g : Nat} {n : Nat} {f : Addr} {fd : FuncData} {ps : List Str} {x : Str} (F : FnOk X.prog X.w X.K X.mg X.base CX0 n f fd ps (spV B.K B.FA (B.Φ g))) (hr : Room n X.A) (hg : Gl X x) (hm : X.mg x = some (.ref f)) (hk : PySem.W.keepIn X.K (.ref f) = true) (hb : Binds X.K fd ps [])
    (hdb : (x == ("__debug__" : Str)) = false := by decide) :
    PE X (.Call (.Name x p) [] [] pos) (SE B (.call g [])) := by
  refine (pe_call0 F hr hg hm hk hb .nil (pass0 (X := X)) hdb).imp fun σ H Q h => ?_
  have := call_se (E := E0) h
  obtain ⟨Z, E, Fs, ars, E', st, he, _, k⟩ := this
  simp only [eva, Option.some.injEq, Prod.mk.injEq] at he
  obtain ⟨rfl, rfl⟩ := he
  exact k [] H Z [] Fs ⟨st, Chg.refl _ _ _ _ _, trivial, by simpa using st.nd, fun _ m => (by simp at m), fun _ m => (by simp at m)⟩
end
end BS

set_option Elab.async false
set_option linter.all false
set_option maxRecDepth 100000
set_option maxHeartbeats 2000000
namespace BS
open PySem PySem.Spec PyProof.Rows L2
def SPost (B : Bk) (s : Ss) (Z H : Hp) (E : En) (Fs : List (List Addr)) (σ : Sl) (D : Ends) : Out → Prop
  | .nx E' => ∀ σ' H' Z' Fs', Stt B.K B.FA Z' H' E' σ' Fs' → Chg (wrS s) Z H E Fs Z' H' E' Fs' → (∀ i, i ∉ asg s → σ'[i]? = σ[i]?) → D.nx σ' H'
  | .rt x E' => ∀ v σ' H' Z' Fd Fs', Pe B.K B.FA (wrS s) none Z H E Fs σ' x E' v Z' H' Fd Fs' → (∀ i, i ∉ asg s → σ'[i]? = σ[i]?) → D.rt v H'
def SS (B : Bk) (s : Ss) : TS := fun D σ H => ∃ Z E Fs o, Stt B.K B.FA Z H E σ Fs ∧ ex B.Φ s E = some o ∧ SPost B s Z H E Fs σ D o
section
variable {X : Cx} {B : Bk} {pos p : Pos} {st : Stmt} {rest : List Stmt} {a b : Ss} {ee ek : Expr} {e k c : Ex}
theorem ss_skip : PS X (.Pass pos) (SS B .skip) := by
  refine ps_pass.imp fun D σ H h => ?_
  obtain ⟨Z, E, Fs, o, s, he, q⟩ := h
  simp only [ex, Option.some.injEq] at he
  subst he
  exact q σ H Z Fs s (Chg.refl _ _ _ _ _) fun _ _ => rfl
theorem ss_nil : PSs X [] (SS B .skip) := by
  refine pss_nil.imp fun D σ H h => ?_
  obtain ⟨Z, E, Fs, o, s, he, q⟩ := h
  simp only [ex, Option.some.injEq] at he
  subst he
  exact q σ H Z Fs s (Chg.refl _ _ _ _ _) fun _ _ => rfl
theorem ss_one (h : PS X st (SS B a)) : PSs X [st] (SS B a) := pss_one h
theorem asg_wr : ∀ (s : Ss), ∀ i ∈ asg s, i ∈ wrS s := by
  intro s
  induction s with
  | skip => intro i h; simp at h
  | seq a b iha ihb =>
    intro i h
    simp only [asg, List.mem_append] at h
    simp only [wrS, List.mem_append]
    exact h.imp (iha i) (ihb i)
  | set tg e =>
    intro i h
    simp only [asg] at h
    simp only [wrS, List.mem_append]
    exact .inl h
  | setIx i k e => intro i h; simp at h
  | setP p k e => intro i h; simp at h
  | expr e => intro i h; simp at h
  | ite c a b iha ihb =>
    intro i h
    simp only [asg, List.mem_append] at h
    simp only [wrS, List.mem_append]
    exact .inr (h.imp (iha i) (ihb i))
  | for_ tg k es body ih =>
    intro i h
    simp only [asg, List.mem_append] at h
    simp only [wrS, List.mem_append]
    exact h.imp id fun z => .inr (ih i z)
  | whl c body ih =>
    intro i h
    simp only [asg] at h
    simp only [wrS, List.mem_append]
    exact .inr (ih i h)
  | ret e => intro i h; simp at h
  | retn => intro i h; simp at h
theorem seq_ss {D : Ends} {σ : Sl} {H : Hp} (h : SS B (.seq a b) D σ H) : SS B a { D with nx := SS B b D } σ H := by
  obtain ⟨Z, E, Fs, o, s, he, q⟩ := h
  simp only [ex] at he
  cases ea : ex B.Φ a E with
  | none => rw [ea] at he; cases he
  | some o1 =>
    rw [ea] at he
    refine ⟨Z, E, Fs, o1, s, ea, ?_⟩
    cases o1 with
    | rt x E1 =>
      simp only [Option.some.injEq] at he
      subst he
      intro v σ' H' Z' Fd Fs' p hs
      refine q v σ' H' Z' Fd Fs' (p.mono fun i hi => ?_) fun i hi => hs i fun z => hi ?_
      · simp only [wrS, List.mem_append]; exact .inl hi
      · simp only [asg, List.mem_append]; exact .inl z
    | nx E1 =>
      intro σ1 H1 Z1 Fs1 s1 c1 g1
      refine ⟨Z1, E1, Fs1, o, s1, he, ?_⟩
      cases o with
      | nx E2 =>
        intro σ2 H2 Z2 Fs2 s2 c2 g2
        refine q σ2 H2 Z2 Fs2 s2 (c1.trans c2) fun i hi => ?_
        simp only [asg, List.mem_append, not_or] at hi
        exact (g2 i hi.2).trans (g1 i hi.1)
      | rt x E2 =>
        intro v σ2 H2 Z2 Fd Fs2 p g2
        refine q v σ2 H2 Z2 Fd Fs2 ⟨p.st, c1.trans p.ch, p.val, fun e => ?_, fun _ _ z => (by cases z)⟩ fun i hi => ?_
        · obtain ⟨n1, n2, n3⟩ := p.ex e
          refine ⟨n1, n2, fun z hz => ?_⟩
          rcases n3 z hz with y | y
          · exact .inl (c1.free y)
          · exact (c1.wc y).symm
        · simp only [asg, List.mem_append, not_or] at hi
          exact (g2 i hi.2).trans (g1 i hi.1)
theorem ss_cons (h1 : PS X st (SS B a)) (h2 : PSs X rest (SS B b)) : PSs X (st :: rest) (SS B (.seq a b)) := (pss_cons h1 h2).imp fun _ _ _ => seq_ss
/-! ### targets -/
def gNs : List Nat → TGs
  | [] => gNil
  | i :: is => gCons (gName i) (gNs is)
def tgT (K : PySem.W.Frag) : Tg → TG
  | .v i => gName i
  | .t is => gTup K is.length (gNs is)
theorem set_at {K : PySem.W.Frag} {FA : Nat → Addr → Prop} {Z H : Hp} {E : En} {σ : Sl} {Fs : List (List Addr)} {i : Nat} {x : Val} {v : V} {F L : List Addr} (st : Stt K FA Z H E σ Fs) (r : R K FA Z H x.2 x.1 v F) (nd : ((F ++ L) ++ Fs.flatten).Nodup) (zf : ∀ a ∈ F, Z a = none) :
    Stt K FA Z H (E.set i (some x)) (σ.set i (some v)) (Fs.set i F) ∧ (L ++ (Fs.set i F).flatten).Nodup := by
  have re := st.re.set (i := i) (x := some x) (v := some v) (F := F) r
  have hn : (L ++ (Fs.set i F).flatten).Nodup := by
    by_cases h : i < Fs.length
    · have e : (L ++ (Fs.set i F).flatten).Perm ((F ++ L) ++ (Fs.set i []).flatten) := by
        refine (List.Perm.append_left L (set_perm h)).trans ?_
        rw [← List.append_assoc]
        exact List.Perm.append_right _ List.perm_append_comm
      exact e.nodup_iff.mpr (nd.sublist (List.Sublist.append_left unset_sub _))
    · rw [List.set_eq_of_length_le (by simpa using h)]
      refine nd.sublist ?_
      rw [List.append_assoc]
      exact List.sublist_append_right _ _
  refine ⟨⟨st.sub, re, (List.nodup_append.mp hn).2.1, fun a ha => ?_⟩, hn⟩
  obtain ⟨j, hj⟩ := of_flat ha
  rcases getD_set hj with ⟨_, z⟩ | ⟨_, z⟩
  · exact zf a z
  · exact st.zf a (mem_flat z)
theorem binds_ok {K : PySem.W.Frag} {FA : Nat → Addr → Prop} {Z H : Hp} {w : Ow} : ∀ {is : List Nat} {ds : List D} {vs : List V} {F : List Addr} {E E2 : En} {σ : Sl} {Fs : List (List Addr)} {Q : Sl → Hp → Prop}, binds is ds w E = some E2 → Rs K FA Z H w ds vs F → Stt K FA Z H E σ Fs → (F ++ Fs.flatten).Nodup → (∀ a ∈ F, Z a = none) →
    (∀ σ' Fs', Stt K FA Z H E2 σ' Fs' → (∀ j, j ∉ is → σ'[j]? = σ[j]? ∧ E2[j]? = E[j]? ∧ Fs'.getD j [] = Fs.getD j []) → (∀ j a, a ∈ Fs'.getD j [] → a ∈ F ∨ a ∈ Fs.getD j []) → Q σ' H) → gNs is vs σ H Q
  | [], [], vs, F, E, E2, σ, Fs, Q, hb, hr, st, nd, zf, k => by
    simp only [binds, Option.some.injEq] at hb
    subst hb
    exact ⟨hr.1, k σ Fs st (fun _ _ => ⟨rfl, rfl, rfl⟩) fun _ _ h => .inr h⟩
  | i :: is, d :: ds, vs, F, E, E2, σ, Fs, Q, hb, hr, st, nd, zf, k => by
    obtain ⟨v, us, A, C, e0, h1, h2, e⟩ := hr
    subst e0
    subst e
    simp only [binds] at hb
    obtain ⟨s1, n1⟩ := set_at (i := i) (L := C) st (R_vl h1) nd fun a ha => zf a (List.mem_append_left _ ha)
    refine ⟨v, us, rfl, binds_ok hb h2 s1 n1 (fun a ha => zf a (List.mem_append_right _ ha)) fun σ' Fs' s' g1 g2 => k σ' Fs' s' (fun j hj => ?_) fun j a ha => ?_⟩
    · have n1 : i ≠ j := fun z => hj (by rw [z]; exact List.mem_cons_self)
      obtain ⟨x1, x2, x3⟩ := g1 j fun z => hj (List.mem_cons_of_mem _ z)
      rw [x1, x2, x3, List.getElem?_set_ne n1, List.getElem?_set_ne n1, getD_set_ne n1]
      exact ⟨rfl, rfl, rfl⟩
    · rcases g2 j a ha with y | y
      · exact .inl (List.mem_append_right _ y)
      · rcases getD_set y with ⟨_, z⟩ | ⟨_, z⟩
        · exact .inl (List.mem_append_left _ z)
        · exact .inr z
  | [], _ :: _, _, _, _, _, _, _, _, hb, _, _, _, _, _ => by simp [binds] at hb
  | _ :: _, [], _, _, _, _, _, _, _, hb, _, _, _, _, _ => by simp [binds] at hb
/-- a value goes to a target -/
theorem bind_ok {K : PySem.W.Frag} {FA : Nat → Addr → Prop} {Z H Z0 H0 : Hp} {w0 : List Nat} {E0 E E2 : En} {σ : Sl} {Fs0 Fs : List (List Addr)} {tg : Tg} {x : Val} {v : V} {Fd : List Addr} {Q : Sl → Hp → Prop} (p : Pe K FA w0 none Z0 H0 E0 Fs0 σ x E v Z H Fd Fs) (hb : bindT tg x E = some E2)
    (k : ∀ σ' Fs', Stt K FA Z H E2 σ' Fs' → Chg (tgs tg ++ w0) Z0 H0 E0 Fs0 Z H E2 Fs' → (∀ i, i ∉ tgs tg → σ'[i]? = σ[i]?) → Q σ' H) : tgT K tg v σ H Q := by
  obtain ⟨nd, zf, fd⟩ := p.ex rfl
  have fin : ∀ σ' Fs', Stt K FA Z H E2 σ' Fs' → (∀ j, j ∉ tgs tg → σ'[j]? = σ[j]? ∧ E2[j]? = E[j]? ∧ Fs'.getD j [] = Fs.getD j []) → (∀ j a, a ∈ Fs'.getD j [] → a ∈ Fd ∨ a ∈ Fs.getD j []) → Q σ' H := fun σ' Fs' s g1 g2 => by
    refine k σ' Fs' s ⟨p.ch.le, p.ch.zn, fun j a ha => ?_, fun a u h n => p.ch.frame a u h fun z => n (z.mono fun i hi => List.mem_append_right _ hi), p.ch.there, fun j hj => ?_⟩ fun i hi => (g1 i hi).1
    · rcases g2 j a ha with y | y
      · exact .inr ((fd a y).imp id fun z => z.mono fun i hi => List.mem_append_right _ hi)
      · exact (p.ch.fr j a y).imp id (Or.imp id fun z => z.mono fun i hi => List.mem_append_right _ hi)
    · obtain ⟨x1, x2, x3⟩ := g1 j fun z => hj (List.mem_append_left _ z)
      obtain ⟨y1, y2⟩ := p.ch.same j fun z => hj (List.mem_append_right _ z)
      exact ⟨x2.trans y1, x3.trans y2⟩
  cases tg with
  | v i =>
    simp only [bindT, Option.some.injEq] at hb
    subst hb
    obtain ⟨s1, _⟩ := set_at (i := i) (L := []) p.st p.val (by simpa using nd) zf
    refine fin _ _ s1 (fun j hj => ?_) fun j a ha => ?_
    · have n1 : i ≠ j := fun z => hj (by simp [z])
      rw [List.getElem?_set_ne n1, List.getElem?_set_ne n1, getD_set_ne n1]
      exact ⟨rfl, rfl, rfl⟩
    · rcases getD_set ha with ⟨_, z⟩ | ⟨_, z⟩
      · exact .inl z
      · exact .inr z
  | t is =>
    obtain ⟨xd, xw⟩ := x
    cases xd with
    | tup ds =>
      simp only [bindT] at hb
      split at hb
      · rename_i hl
        obtain ⟨t, vs, rfl, hq, hr⟩ := p.val
        exact ⟨t, vs, rfl, SqT.of (tup_sub p.st.sub hq), by rw [Rs_len hr, hl], binds_ok hb hr p.st nd zf fin⟩
      · cases hb
    | _ => simp [bindT] at hb
theorem set_ss {tg : Tg} {D : Ends} {σ : Sl} {H : Hp} (h : SS B (.set tg e) D σ H) : tAsg (SE B e) (tgT B.K tg) D σ H := by
  obtain ⟨Z, E, Fs, o, s, he, q⟩ := h
  simp only [ex, Option.bind_eq_bind, Option.bind_eq_some_iff, Prod.exists] at he
  obtain ⟨xd, xw, E1, h1, E2, h2, h3⟩ := he
  simp only [Option.some.injEq] at h3
  subst h3
  refine se_x ⟨Z, E, Fs, (xd, xw), E1, s, h1, fun v H1 Z1 Fd Fs1 p => ?_⟩
  refine bind_ok p h2 fun σ' Fs' s' c' g => q σ' H1 Z1 Fs' s' (c'.mono fun i hi => ?_) g
  simpa only [wrS] using hi
theorem pg_v {i : Nat} {x : Str} (hN : X.N.Nodup) (hi : X.N[i]? = some x) (hx : Loc X.env.scope x) (hf : X.fn x = true ∨ X.env.scope.names.lookup x = some .local) : PG X (.Name x pos) (tgT B.K (.v i)) := pg_name hN hi hx hf
theorem pgs_n : PGs X [] (gNs []) := pgs_nil
theorem pgs_v {i : Nat} {is : List Nat} {x : Str} {es : List Expr} (hN : X.N.Nodup) (hi : X.N[i]? = some x) (hx : Loc X.env.scope x) (hf : X.fn x = true ∨ X.env.scope.names.lookup x = some .local) (hr : PGs X es (gNs is))
    (hs : (assignEach (.Name x pos :: es) X.env).map (·.2) = assign (.Name x pos) X.env :: (assignEach es X.env).map (·.2) := by rfl) : PGs X (.Name x pos :: es) (gNs (i :: is)) := pgs_cons (pg_name hN hi hx hf) hr hs
theorem pg_t {is : List Nat} {es : List Expr} {kk : Nat} (hc : X.calm = true) (h : PGs X es (gNs is)) (hK : X.K = B.K := by rfl) (hn : (assignEach es X.env).length = is.length := by rfl) (hst : (assignEach es X.env).findIdx? (·.1) = none := by rfl) : PG X (.Tuple es kk pos) (tgT B.K (.t is)) :=
  hK ▸ pg_tup hc h hn hst
/-- name = e -/
theorem ss_set {i : Nat} {x : Str} {pos' : Pos} (hN : X.N.Nodup) (hi : X.N[i]? = some x) (hx : Loc X.env.scope x) (hf : X.fn x = true ∨ X.env.scope.names.lookup x = some .local) (he : PE X ee (SE B e)) (hs : swapsWith ee (some (.Name x pos')) pos.line X.env = pure false := by rfl) :
    PS X (.Assign [.Name x pos'] ee pos) (SS B (.set (.v i) e)) := (ps_set hN hi hx he hs hf).imp fun _ _ _ h => set_ss h
/-- a, b = e -/
theorem ss_setT {tgt : Expr} {is : List Nat} (he : PE X ee (SE B e)) (hg : PG X tgt (tgT B.K (.t is))) (hs : swapsWithSole [tgt] ee pos.line X.env = pure false := by rfl) (hw : swappedStores [tgt] ee X.env = pure none := by rfl)
    (h1 : (assignEach [tgt] X.env).map (·.2) = [assign tgt X.env] := by rfl) : PS X (.Assign [tgt] ee pos) (SS B (.set (.t is) e)) := (ps_asg he hg hs hw h1).imp fun _ _ _ h => set_ss h
/-! ### e; return; if -/
theorem ss_expr (he : PE X ee (SE B e)) (hs : swapsWith ee none pos.line X.env = pure false := by rfl) : PS X (.Expr ee pos) (SS B (.expr e)) := by
  refine (ps_expr he hs).imp fun D σ H h => ?_
  obtain ⟨Z, E, Fs, o, s, he, q⟩ := h
  simp only [ex, Option.bind_eq_bind, Option.bind_eq_some_iff, Prod.exists] at he
  obtain ⟨xd, xw, E1, h1, h3⟩ := he
  simp only [Option.some.injEq] at h3
  subst h3
  exact ⟨Z, E, Fs, (xd, xw), E1, s, h1, fun v H1 Z1 Fd Fs1 p => q σ H1 Z1 Fs1 p.st p.ch fun _ _ => rfl⟩
theorem ss_retn : PS X (.Return none pos) (SS B .retn) := by
  refine ps_retN.imp fun D σ H h => ?_
  obtain ⟨Z, E, Fs, o, s, he, q⟩ := h
  simp only [ex, Option.some.injEq] at he
  subst he
  exact q .non σ H Z [] Fs ⟨s, Chg.refl _ _ _ _ _, ⟨rfl, rfl⟩, fun _ => ⟨by simpa using s.nd, fun _ m => (by cases m), fun _ m => (by cases m)⟩, fun _ _ z => (by cases z)⟩ fun _ _ => rfl
def notVar : Ex → Bool
  | .var _ => false
  | _ => true
theorem ss_ret (he : PE X ee (SE B e)) : PS X (.Return (some ee) pos) (SS B (.ret e)) := by
  refine (ps_ret he).imp fun D σ H h => ?_
  obtain ⟨Z, E, Fs, o, s, he, q⟩ := h
  cases hn : notVar e with
  | true =>
    have e1 : ∃ x E1, ev B.Φ e E = some (x, E1) ∧ o = .rt (esc e x E1).1 (esc e x E1).2 := by
      cases e <;> first | (simp [notVar] at hn; done) | (simp only [ex, Option.bind_eq_bind, Option.bind_eq_some_iff, Prod.exists] at he; obtain ⟨xd, xw, E1, h1, h3⟩ := he; simp only [Option.some.injEq] at h3; exact ⟨(xd, xw), E1, h1, h3.symm⟩)
    obtain ⟨x, E1, h1, rfl⟩ := e1
    exact se_x ⟨Z, E, Fs, x, E1, s, h1, fun v H1 Z1 Fd Fs1 p => q v σ H1 Z1 Fd Fs1 p fun _ _ => rfl⟩
  | false =>
    obtain ⟨i, rfl⟩ : ∃ i, e = .var i := by cases e <;> first | exact ⟨_, rfl⟩ | simp [notVar] at hn
    simp only [ex] at he
    cases hx : E[i]? with
    | none => rw [hx] at he; cases he
    | some oo =>
      rw [hx] at he
      cases oo with
      | none => cases he
      | some x =>
        simp only [Option.some.injEq] at he
        subst he
        refine ⟨Z, E, Fs, x, E, s, by simp [ev, hx], fun v H1 Z1 Fd Fs1 p => ?_⟩
        cases hp : plain x.1 with
        | true =>
          rw [hp] at q
          simp only [if_true] at q
          refine q v σ H1 Z1 [] Fs1 ?_ fun _ _ => rfl
          have hr := (R_plain _ hp p.val).2
          refine ⟨p.st, p.ch.mono fun j hj => (by simp [wr] at hj), hr _ _, fun _ => ⟨by simpa using p.st.nd, fun _ m => (by cases m), fun _ m => (by cases m)⟩, fun _ _ z => (by cases z)⟩
        | false =>
          rw [hp] at q
          simp only [Bool.false_eq_true, if_false] at q
          obtain ⟨_, pl2⟩ := p.pl i false (by simp [pr, isIx])
          obtain ⟨pe1, pe2⟩ := pl2 rfl
          -- the slot's value is handed out
          have ei := getD_eq_of pe1 (by simp)
          obtain ⟨v', hv', ro⟩ := p.st.re.get ei
          have re' := p.st.re.turn hv' (show RO B.K B.FA Z1 H1 none v' [] from rfl)
          have nd0 : (Fd ++ (Fs1.set i []).flatten).Nodup := by
            have e := self_perm (Fs := Fs1) (i := i)
            rw [pe2] at e
            exact e.nodup_iff.mp p.st.nd
          refine q v σ H1 Z1 Fd (Fs1.set i []) ⟨⟨p.st.sub, re', (List.nodup_append.mp nd0).2.1, fun a ha => p.st.zf a (mem_unset ha)⟩, ?_, p.val, fun _ => ⟨nd0, fun a ha => p.st.zf a (mem_flat (i := i) (by rw [pe2]; exact ha)), fun a ha => ?_⟩, fun _ _ z => (by cases z)⟩ fun _ _ => rfl
          · refine ⟨p.ch.le, p.ch.zn, fun j a ha => ?_, fun a u h n => p.ch.frame a u h fun z => n (z.mono fun j hj => by simp [wr] at hj), p.ch.there, fun j hj => ?_⟩
            · rcases getD_set ha with ⟨_, z⟩ | ⟨_, z⟩
              · cases z
              · exact (p.ch.fr j a z).imp id (Or.imp id fun y => y.mono fun j hj => by simp [wr] at hj)
            · have n1 : i ≠ j := fun z => hj (by simp [z])
              obtain ⟨x1, x2⟩ := p.ch.same j (by simp [wr])
              rw [List.getElem?_set_ne n1, getD_set_ne n1]
              exact ⟨rfl, x2⟩
          · have := p.ch.fr i a (by rw [pe2]; exact ha)
            rcases this with y | y | y
            · exact .inr ⟨i, by simp, y⟩
            · exact .inl y
            · exact .inr (y.mono fun j hj => by simp [wr] at hj)
theorem ss_if {th el : List Stmt} (hc : PT X ee (ST B c)) (ha : PSs X th (SS B a)) (hb : PSs X el (SS B b)) : PS X (.If ee th el pos) (SS B (.ite c a b)) := by
  refine (ps_if hc ha hb).imp fun D σ H h => ?_
  obtain ⟨Z, E, Fs, o, s, he, q⟩ := h
  simp only [ex, Option.bind_eq_bind, Option.bind_eq_some_iff, Prod.exists] at he
  obtain ⟨xd, xw, E1, h1, he⟩ := he
  have fin : ∀ (s' : Ss), (∀ i, i ∈ wr c ++ wrS s' → i ∈ wrS (.ite c a b)) → (∀ i, i ∈ asg s' → i ∈ asg (.ite c a b)) → ∀ H1 Z1 Fs1, Stt B.K B.FA Z1 H1 E1 σ Fs1 → Chg (wr c) Z H E Fs Z1 H1 E1 Fs1 → ex B.Φ s' E1 = some o → SS B s' D σ H1 := fun s' hw hs H1 Z1 Fs1 s1 c1 e1 => by
    refine ⟨Z1, E1, Fs1, o, s1, e1, ?_⟩
    cases o with
    | nx E2 =>
      intro σ2 H2 Z2 Fs2 s2 c2 g2
      exact q σ2 H2 Z2 Fs2 s2 ((c1.trans c2).mono hw) fun i hi => g2 i fun z => hi (hs i z)
    | rt x E2 =>
      intro v σ2 H2 Z2 Fd Fs2 p g2
      refine q v σ2 H2 Z2 Fd Fs2 ⟨p.st, (c1.trans p.ch).mono hw, p.val, fun e => ?_, fun _ _ z => (by cases z)⟩ fun i hi => g2 i fun z => hi (hs i z)
      obtain ⟨n1, n2, n3⟩ := p.ex e
      refine ⟨n1, n2, fun z hz => ?_⟩
      rcases n3 z hz with y | y
      · exact .inl (c1.free y)
      · exact ((c1.wc y).imp (fun w => w.mono hw) id).symm
  cases xd with
  | bl kk =>
    refine ⟨Z, E, Fs, kk, xw, E1, s, h1, fun H1 Z1 Fs1 s1 c1 => ?_⟩
    cases kk with
    | true =>
      simp only [if_true]
      refine fin a (fun i hi => ?_) (fun i hi => ?_) H1 Z1 Fs1 s1 c1 he
      · simp only [wrS, List.mem_append] at hi ⊢
        exact hi.imp id .inl
      · simp only [asg, List.mem_append]; exact .inl hi
    | false =>
      simp only [Bool.false_eq_true, if_false]
      refine fin b (fun i hi => ?_) (fun i hi => ?_) H1 Z1 Fs1 s1 c1 he
      · simp only [wrS, List.mem_append] at hi ⊢
        exact hi.imp id .inr
      · simp only [asg, List.mem_append]; exact .inr hi
  | _ => cases he
end
end BS

set_option Elab.async false
set_option linter.all false
set_option maxRecDepth 100000
set_option maxHeartbeats 2000000
namespace BS
open PySem PySem.Spec PyProof.Rows L2
section
variable {K : PySem.W.Frag} {FA : Nat → Addr → Prop} {Z Z' H H' : Hp}
/-! ### what is walked -/
structure Items (K : PySem.W.Frag) (FA : Nat → Addr → Prop) (Z1 : Hp) (ys : List D) (vs : List V) : Prop where
  len : vs.length = ys.length
  itm : ∀ (j : Nat) (d : D), ys[j]? = some d → ∃ v, vs[j]? = some v ∧ ∀ Z' H', Le Z1 Z' → R K FA Z' H' (shv d).2 (shv d).1 v []
structure SrcL (K : PySem.W.Frag) (FA : Nat → Addr → Prop) (w : List Nat) (Z1 H1 : Hp) (E1 : En) (Fs1 : List (List Addr)) (ys : List D) (p : Addr) (vs : List V) : Prop where
  it : Items K FA Z1 ys vs
  stand : ∀ {H' Z' E' Fs'}, Chg w Z1 H1 E1 Fs1 Z' H' E' Fs' → Sub Z' H' → H' p = some (.lst vs)
theorem Items.sh {ys : List D} {vs : List V} {G : List Addr} (h : Rs K FA Z H .sh ys vs G) : Items K FA Z ys vs := by
  refine ⟨Rs_len h, fun j d e => ?_⟩
  obtain ⟨v, F', e1, r, _⟩ := Rs_get h e
  have e0 := R_sh _ r
  subst e0
  refine ⟨v, e1, fun Z' H' le => ?_⟩
  exact R_vl (R_keep (H := H') le _ (fun _ m => (by cases m)) (R_share (H' := H') (Le.refl Z) _ (fun _ m => (by cases m)) r))
theorem Items.plain {ys : List D} {vs : List V} {w : Ow} {G : List Addr} (hp : plains ys = true) (h : Rs K FA Z H w ys vs G) : Items K FA Z ys vs := Items.sh ((Rs_plain ys hp h).2 .sh H)
theorem evit1 {Φ : Phi} {w : List Nat} {e : Ex} {E E' : En} {xs : List Val} (h : evit Φ w [e] E = some (xs, E')) : ∃ x E1, ev Φ e E = some (x, E1) ∧
    ((isPl e = true ∧ kplain x.1 = true ∧ isDicD x.1 = false ∧ root e ∉ w ∧ xs = [x] ∧ E' = E1) ∨ (xs = [(esc e x E1).1] ∧ E' = (esc e x E1).2)) := by
  simp only [evit, Option.bind_eq_bind, Option.bind_eq_some_iff, Prod.exists] at h
  obtain ⟨xd, xw, E1, h1, ys, E2, h2, h3⟩ := h
  simp only [Option.some.injEq, Prod.mk.injEq] at h2 h3
  obtain ⟨rfl, rfl⟩ := h2
  obtain ⟨rfl, rfl⟩ := h3
  refine ⟨(xd, xw), E1, h1, ?_⟩
  cases hc : (isPl e && kplain xd && !isDicD xd && !w.contains (root e)) with
  | true =>
    simp only [Bool.and_eq_true, Bool.not_eq_true', List.contains_eq_mem, decide_eq_false_iff_not] at hc
    exact .inl ⟨hc.1.1.1, hc.1.1.2, hc.1.2, hc.2, by simp, by simp⟩
  | false => exact .inr ⟨by simp, by simp⟩
theorem chg_flat {w : List Nat} {Z1 H1 : Hp} {E1 : En} {Fs1 : List (List Addr)} : True := trivial
/-- a value that is walked -/
theorem Pe.src {w0 w : List Nat} {e : Ex} {Z1 H1 : Hp} {E E1 E' : En} {Fs Fs1 : List (List Addr)} {σ : Sl} {x : Val} {v : V} {Fd : List Addr} {xs : List Val}
    (p : Pe K FA w0 (pr e) Z H E Fs σ x E1 v Z1 H1 Fd Fs1)
    (hc : (isPl e = true ∧ kplain x.1 = true ∧ isDicD x.1 = false ∧ root e ∉ w ∧ xs = [x] ∧ E' = E1) ∨ (xs = [(BS.esc e x E1).1] ∧ E' = (BS.esc e x E1).2)) :
    ∃ Z2 Fs2, Stt K FA Z2 H1 E' σ Fs2 ∧ Chg ((if isPl e then [root e] else []) ++ w0) Z H E Fs Z2 H1 E' Fs2 ∧ ds xs = [x.1] ∧
      (∀ ys, x.1 = .lst ys → ∃ q vs, v = .ref q ∧ SrcL K FA w Z2 H1 E' Fs2 ys q vs) ∧
      (∀ ys, x.1 = .tup ys → ∃ q vs, v = .ref q ∧ Z2 q = some (.tup vs) ∧ Items K FA Z2 ys vs) ∧
      (∀ s, x.1 = .str s → v = .str s ∧ s.length ≤ line ∧ PyData.strOk s = true) ∧
      ∀ t kvs, x.1 = .dic t kvs → R K FA Z2 H1 .sh (.dic t kvs) v [] := by
  rcases hc with ⟨hp, hk, hd, hr, rfl, rfl⟩ | ⟨rfl, rfl⟩
  · have epr : pr e = some (root e, isIx e) := by simp [pr, hp]
    refine ⟨Z1, Fs1, p.st, p.ch.mono fun i hi => List.mem_append_right _ hi, rfl, fun ys hy => ?_, fun ys hy => ?_, fun s hs => ?_, fun t kvs ht => ?_⟩
    · obtain ⟨xd, xw⟩ := x
      simp only at hy
      subst hy
      rw [kplain_lst] at hk
      obtain ⟨q, vs, G, rfl, hq, hr', ef⟩ := p.val
      refine ⟨q, vs, rfl, Items.plain hk hr', fun {H' Z' E2 Fs2} c s => ?_⟩
      have own' : xw ≠ .sh → H1 q = some (.lst vs) → H' q = some (.lst vs) := fun hw hq => by
        have hm : q ∈ Fd := by
          rw [ef]
          cases xw
          · exact absurd rfl hw
          · exact List.mem_cons_self
          · exact List.mem_cons_self
        refine c.frame q _ hq fun ⟨j, hj, hjm⟩ => ?_
        have := flat_inj p.st.nd (inn_sub ((p.pl _ _ epr).1 q hm)) hjm
        exact hr (this ▸ hj)
      cases xw with
      | sh =>
        rcases s q _ (c.le q _ hq) with y | ⟨y, _⟩
        · exact y
        · exact y.elim
      | top => exact own' (by decide) hq
      | deep => exact own' (by decide) hq
    · obtain ⟨xd, xw⟩ := x
      simp only at hy
      subst hy
      rw [kplain_tup] at hk
      obtain ⟨q, vs, rfl, hq, hr'⟩ := p.val
      exact ⟨q, vs, rfl, hq, Items.plain hk hr'⟩
    · obtain ⟨xd, xw⟩ := x
      simp only at hs
      subst hs
      exact p.val.1
    · rw [ht] at hd
      cases hd
  · obtain ⟨Z2, Fd2, Fs2, q⟩ := p.esc
    obtain ⟨nd, zf, fd⟩ := q.ex rfl
    have out : ∀ a ∈ Fd2, a ∉ Fs2.flatten := fun a ha hb => (List.nodup_append.mp nd).2.2 a ha a hb rfl
    have st' := q.st.zadd zf out
    have ch' := q.ch.zadd zf fd
    have r' : R K FA (zadd Z2 H1 Fd2) H1 .sh (BS.esc e x E1).1.1 v [] := R_share (zadd_le zf) _ (fun a ha => zadd_in ha) q.val
    have ec : (BS.esc e x E1).1.1 = x.1 := by unfold BS.esc; split <;> rfl
    rw [ec] at r'
    refine ⟨zadd Z2 H1 Fd2, Fs2, st', ch', by simp [ds, ec], fun ys hy => ?_, fun ys hy => ?_, fun s hs => ?_, fun t kvs ht => ?_⟩
    · rw [hy] at r'
      obtain ⟨q', vs, G, rfl, hq, hr', ef⟩ := r'
      refine ⟨q', vs, rfl, Items.sh hr', fun {H' Z' E2 Fs2} c s => ?_⟩
      rcases s q' _ (c.le q' _ hq) with y | ⟨y, _⟩
      · exact y
      · exact y.elim
    · rw [hy] at r'
      obtain ⟨q', vs, rfl, hq, hr'⟩ := r'
      exact ⟨q', vs, rfl, hq, Items.sh hr'⟩
    · rw [hs] at r'
      exact r'.1
    · rw [ht] at r'
      exact r'
end
/-! ### for -/
section
variable {B : Bk}
/-- what follows, by the outcome -/
def PostW (B : Bk) (w a : List Nat) (Z H : Hp) (E : En) (Fs : List (List Addr)) (σ : Sl) (D : Ends) : Out → Prop
  | .nx E' => ∀ σ' H' Z' Fs', Stt B.K B.FA Z' H' E' σ' Fs' → Chg w Z H E Fs Z' H' E' Fs' → (∀ i, i ∉ a → σ'[i]? = σ[i]?) → D.nx σ' H'
  | .rt x E' => ∀ v σ' H' Z' Fd Fs', Pe B.K B.FA w none Z H E Fs σ' x E' v Z' H' Fd Fs' → (∀ i, i ∉ a → σ'[i]? = σ[i]?) → D.rt v H'
/-- a turn's item, as it lies -/
def Yld (K : PySem.W.Frag) (FA : Nat → Addr → Prop) (its : List D) (Z1 : Hp) (G : Hp → Prop) (Y : Nat → Hp → V → Hp → Prop) : Prop :=
  ∀ (i : Nat) (d : D) (x : V) (H H' Z : Hp), its[i]? = some d → Le Z1 Z → G H → Y i H x H' → ∀ E σ Fs, Stt K FA Z H E σ Fs → ∃ Zn, Stt K FA Zn H' E σ Fs ∧ Chg [] Z H E Fs Zn H' E Fs ∧ R K FA Zn H' (shv d).2 (shv d).1 x []
theorem for_se {J : It} {n : Nat} {G : Hp → Prop} {Y : Nat → Hp → V → Hp → Prop} (w : Walk J n G Y) {tg : Tg} {b : Ss} {its : List D} {Z1 H1 : Hp} {E1 : En} {σ : Sl} {Fs1 : List (List Addr)} {o : Out} {D : Ends}
    (st : Stt B.K B.FA Z1 H1 E1 σ Fs1) (hn : n = its.length) (he : forL (fun x E => do let E ← bindT tg x E; ex B.Φ b E) its E1 = some o)
    (hG : ∀ {H' Z' E' Fs'}, Chg (tgs tg ++ wrS b) Z1 H1 E1 Fs1 Z' H' E' Fs' → Sub Z' H' → G H') (hY : Yld B.K B.FA its Z1 G Y)
    (q : PostW B (tgs tg ++ wrS b) (tgs tg ++ asg b) Z1 H1 E1 Fs1 σ D o) :
    ∃ W : Nat → Nat → L2.St → Hp → Prop, (∃ m, W 0 m σ H1) ∧ ∀ i m σ H, W i m σ H →
      (J.stop i H ∧ D.nx σ H) ∨ (J.go i H ∧ ∃ N : L2.St → Hp → Prop, (∀ σ' H', N σ' H' → ∃ m', m' < m ∧ W (i + 1) m' σ' H') ∧ ∀ x H', J.yld i H x H' → tgT B.K tg x σ H' fun σ2 H2 => SS B b { D with nx := N, ct := N, bk := D.nx } σ2 H2) := by
  subst hn
  refine for_it w (fun i σ' H' => ∃ Z' E' Fs', Stt B.K B.FA Z' H' E' σ' Fs' ∧ Chg (tgs tg ++ wrS b) Z1 H1 E1 Fs1 Z' H' E' Fs' ∧ (∀ j, j ∉ tgs tg ++ asg b → σ'[j]? = σ[j]?) ∧ forL (fun x E => do let E ← bindT tg x E; ex B.Φ b E) (its.drop i) E' = some o)
    ⟨Z1, E1, Fs1, st, Chg.refl _ _ _ _ _, fun _ _ => rfl, he⟩ (fun i σ' H' _ ⟨Z', E', Fs', s', c', _⟩ => hG c' s'.sub) ?_ ?_
  · rintro i x σ' H' H2 hi ⟨Z', E', Fs', s', c', g', e'⟩ hy
    obtain ⟨d, hd⟩ : ∃ d, its[i]? = some d := ⟨_, List.getElem?_eq_getElem hi⟩
    obtain ⟨Zn, s2, c2, r2⟩ := hY i d x H' H2 Z' hd c'.le (hG c' s'.sub) hy E' σ' Fs' s'
    rw [List.drop_eq_getElem_cons hi] at e'
    have ed : its[i] = d := by
      rw [List.getElem?_eq_getElem hi] at hd
      exact Option.some.inj hd
    rw [ed] at e'
    simp only [forL, Option.bind_eq_bind] at e'
    cases eb : bindT tg (shv d) E' with
    | none => rw [eb] at e'; simp at e'
    | some E2 =>
      rw [eb] at e'
      simp only [Option.bind_some] at e'
      cases ex2 : ex B.Φ b E2 with
      | none => rw [ex2] at e'; simp at e'
      | some o2 =>
        rw [ex2] at e'
        have pe : Pe B.K B.FA (tgs tg ++ wrS b) none Z1 H1 E1 Fs1 σ' (shv d) E' x Zn H2 [] Fs' := by
          refine ⟨s2, (c'.trans c2).mono fun i hi => (by simpa using hi), r2, fun _ => ⟨by simpa using s2.nd, fun _ m => (by cases m), fun _ m => (by cases m)⟩, fun _ _ z => (by cases z)⟩
        refine bind_ok pe eb fun σ3 Fs3 s3 c3 g3 => ?_
        have c3' : Chg (tgs tg ++ wrS b) Z1 H1 E1 Fs1 Zn H2 E2 Fs3 := c3.mono fun i hi => by
          simp only [List.mem_append] at hi ⊢
          rcases hi with z | z | z
          · exact .inl z
          · exact .inl z
          · exact .inr z
        refine ⟨Zn, E2, Fs3, o2, s3, ex2, ?_⟩
        have idem : ∀ i, i ∈ (tgs tg ++ wrS b) ++ wrS b → i ∈ tgs tg ++ wrS b := fun i hi => by
          simp only [List.mem_append] at hi ⊢
          rcases hi with (z | z) | z
          · exact .inl z
          · exact .inr z
          · exact .inr z
        cases o2 with
        | nx E4 =>
          intro σ4 H4 Z4 Fs4 s4 c4 g4
          refine ⟨Z4, E4, Fs4, s4, (c3'.trans c4).mono idem, fun j hj => ?_, e'⟩
          have hj' : j ∉ tgs tg ∧ j ∉ asg b := by simpa only [List.mem_append, not_or] using hj
          exact (g4 j hj'.2).trans ((g3 j hj'.1).trans (g' j hj))
        | rt y E4 =>
          intro v σ4 H4 Z4 Fd Fs4 p4 g4
          simp only [Option.some.injEq] at e'
          subst e'
          refine q v σ4 H4 Z4 Fd Fs4 ⟨p4.st, (c3'.trans p4.ch).mono idem, p4.val, fun e => ?_, fun _ _ z => (by cases z)⟩ fun j hj => ?_
          · obtain ⟨n1, n2, n3⟩ := p4.ex e
            refine ⟨n1, n2, fun z hz => ?_⟩
            rcases n3 z hz with y | y
            · exact .inl (c3'.free y)
            · exact ((c3'.wc y).imp (fun w => w.mono idem) id).symm
          · have hj' : j ∉ tgs tg ∧ j ∉ asg b := by simpa only [List.mem_append, not_or] using hj
            exact (g4 j hj'.2).trans ((g3 j hj'.1).trans (g' j hj))
  · rintro σ' H' ⟨Z', E', Fs', s', c', g', e'⟩
    rw [List.drop_length] at e'
    simp only [forL, Option.some.injEq] at e'
    subst e'
    exact q σ' H' Z' Fs' s' c' g'
/-- lists, tuples, texts: the item stands -/
theorem yld_at {its : List D} {vs : List V} {Z1 : Hp} {G : Hp → Prop} (h : Items B.K B.FA Z1 its vs) : Yld B.K B.FA its Z1 G (YAt vs) := by
  intro i d x H H' Z hd le _ hy E σ Fs st
  obtain ⟨rfl, hx⟩ := hy
  obtain ⟨v, hv, r⟩ := h.itm i d hd
  rw [hx] at hv
  cases hv
  exact ⟨Z, st, Chg.refl _ _ _ _ _, r Z H' le⟩
theorem yld_int {lo c : Int} {n : Nat} {Z1 : Hp} {G : Hp → Prop} {f : Nat → V} (hf : ∀ i, f i = .int (lo + (i : Nat) * c)) : Yld B.K B.FA (rng lo c 0 n) Z1 G (YFn f) := by
  intro i d x H H' Z hd le _ hy E σ Fs st
  obtain ⟨rfl, rfl⟩ := hy
  have key : ∀ (n k i : Nat) (d : D), (rng lo c k n)[i]? = some d → d = .int (lo + ((k + i : Nat) : Int) * c) := fun n => by
    induction n with
    | zero => intro k i d h; simp [rng] at h
    | succ n ih =>
      intro k i d h
      cases i with
      | zero => simp [rng] at h; rw [← h]; simp
      | succ i =>
        have := ih (k + 1) i d (by simpa [rng] using h)
        rw [this]
        congr 3
        omega
  have e := key n 0 i d hd
  subst e
  refine ⟨Z, st, Chg.refl _ _ _ _ _, ?_⟩
  rw [hf]
  simp only [Nat.zero_add]
  exact ⟨rfl, rfl⟩
theorem rng_len (lo c : Int) : ∀ (n k : Nat), (rng lo c k n).length = n
  | 0, _ => rfl
  | n + 1, k => by simp [rng, rng_len lo c n]
end
end BS

set_option Elab.async false
set_option linter.all false
set_option maxRecDepth 100000
set_option maxHeartbeats 2000000
namespace BS
open PySem PySem.Spec PyProof.Rows L2
theorem _root_.L2.PI.or {X : Cx} {tg e : Expr} {t t' : TI} (h : PI X tg e t) (h' : PI X tg e t') : PI X tg e (fun σ H R => t σ H R ∨ t' σ H R) :=
  ⟨fun pins s σ H R I w => w.elim (h.run pins s σ H R I) (h'.run pins s σ H R I)⟩
section
variable {X : Cx} {B : Bk} {pos p pos' : Pos} {Z1 : Hp} {G : Hp → Prop} {body : List Stmt} {b : Ss} {ee ef eg tgE : Expr} {e f g : Ex} {T : Tg}
theorem for_post {k : Ik} {es : List Ex} {Z H Z2 H2 : Hp} {E E2 : En} {Fs Fs2 : List (List Addr)} {σ : Sl} {D : Ends} {o : Out} (q : SPost B (.for_ T k es b) Z H E Fs σ D o) (c : Chg (wrs es) Z H E Fs Z2 H2 E2 Fs2) :
    PostW B (tgs T ++ wrS b) (tgs T ++ asg b) Z2 H2 E2 Fs2 σ D o := by
  have sub : ∀ i, i ∈ wrs es ++ (tgs T ++ wrS b) → i ∈ wrS (.for_ T k es b) := fun i hi => by
    simp only [wrS, List.mem_append] at hi ⊢
    rcases hi with z | z | z
    · exact .inr (.inl z)
    · exact .inl z
    · exact .inr (.inr z)
  cases o with
  | nx E' => exact fun σ' H' Z' Fs' s' c' g' => q σ' H' Z' Fs' s' ((c.trans c').mono sub) fun i hi => g' i (by simpa only [asg] using hi)
  | rt x E' =>
    intro v σ' H' Z' Fd Fs' p g'
    refine q v σ' H' Z' Fd Fs' ⟨p.st, (c.trans p.ch).mono sub, p.val, fun e => ?_, fun _ _ z => (by cases z)⟩ fun i hi => g' i (by simpa only [asg] using hi)
    obtain ⟨n1, n2, n3⟩ := p.ex e
    refine ⟨n1, n2, fun z hz => ?_⟩
    rcases n3 z hz with y | y
    · exact .inl (c.free y)
    · exact ((c.wc y).imp (fun w => w.mono sub) id).symm
theorem ex_for {Φ : Phi} {k : Ik} {es : List Ex} {E : En} {o : Out} (h : ex Φ (.for_ T k es b) E = some o) : ∃ xs E1 its, (match k with | .rng => evs Φ es E | .zip => evs Φ es E | _ => evit Φ (wrS b ++ tgs T) es E) = some (xs, E1) ∧ items k (ds xs) = some its ∧ forL (fun x E => do let E ← bindT T x E; ex Φ b E) its E1 = some o := by
  simp only [ex, Option.bind_eq_bind, Option.bind_eq_some_iff, Prod.exists] at h
  obtain ⟨xs, E1, h1, its, h2, h3⟩ := h
  exact ⟨xs, E1, its, h1, h2, h3⟩
theorem wrs1 (e : Ex) : ∀ i, i ∈ (if isPl e then [root e] else []) ++ wr e → i ∈ wrs [e] := fun i hi => by simpa [wrs] using hi
/-- for over a list, a tuple, a text -/
theorem ss_for (he : PE X ee (SE B e)) (hg : PG X tgE (tgT B.K T)) (hb : PSs X body (SS B b)) (hxe : X.xe = fun _ _ => False := by rfl) (hc : X.calm = true := by rfl) (hK : X.K = B.K := by rfl) (hs : ∀ x, foldedSetIterable ee X.env x = pure x := by intro _; rfl) :
    PS X (.For tgE ee body [] pos) (SS B (.for_ T .of [e] b)) := by
  have hp : PassesOwn (model X.prog X.w) X.A X.env X.xe := by rw [hxe]; exact PassesOwn.never
  refine (ps_for hp hc ((pi_list he).or ((pi_tup he).or (pi_str he))) hg hb hs).imp fun D σ H h => ?_
  obtain ⟨Z, E, Fs, o, s, hx, q⟩ := h
  obtain ⟨xs, E1', its, h1, h2, h3⟩ := ex_for hx
  obtain ⟨x, E1, h0, hcase⟩ := evit1 h1
  have key : ∀ {R2 : V → Hp → Prop}, (∀ v H1 Z2 Fs2, Stt B.K B.FA Z2 H1 E1' σ Fs2 → Chg (wrs [e]) Z H E Fs Z2 H1 E1' Fs2 → ds xs = [x.1] →
      (∀ ys, x.1 = .lst ys → ∃ q vs, v = .ref q ∧ SrcL B.K B.FA (wrS b ++ tgs T) Z2 H1 E1' Fs2 ys q vs) →
      (∀ ys, x.1 = .tup ys → ∃ q vs, v = .ref q ∧ Z2 q = some (.tup vs) ∧ Items B.K B.FA Z2 ys vs) →
      (∀ s, x.1 = .str s → v = .str s ∧ s.length ≤ line ∧ PyData.strOk s = true) → R2 v H1) → SE B e σ H R2 := fun {R2} k => by
    refine ⟨Z, E, Fs, x, E1, s, h0, fun v H1 Z1 Fd Fs1 p => ?_⟩
    obtain ⟨Z2, Fs2, s2, c2, d2, l2, t2, st2, _⟩ := p.src hcase
    exact k v H1 Z2 Fs2 s2 (c2.mono (wrs1 e)) d2 l2 t2 st2
  cases hd : x.1 with
  | lst ys =>
    refine .inl (key fun v H1 Z2 Fs2 s2 c2 d2 l2 t2 st2 => ?_)
    rw [hd] at d2
    rw [d2] at h2
    simp only [items, Option.some.injEq] at h2
    subst h2
    obtain ⟨a, vs, rfl, src⟩ := l2 ys hd
    have hq : H1 a = some (.lst vs) := src.stand (Chg.refl _ _ _ _ _) s2.sub
    refine ⟨a, rfl, ⟨vs, SqL.of hq⟩, ?_⟩
    rw [hK]
    refine for_se (walk_list (K := B.K) (a := a) (xs := vs)) s2 src.it.len h3 (fun {H' Z' E' Fs'} c s' => ?_) (yld_at src.it) (for_post q c2)
    exact SqL.of (src.stand (c.mono fun i hi => by simp only [List.mem_append] at hi ⊢; exact hi.symm) s')
  | tup ys =>
    refine .inr (.inl (key fun v H1 Z2 Fs2 s2 c2 d2 l2 t2 st2 => ?_))
    rw [hd] at d2
    rw [d2] at h2
    simp only [items, Option.some.injEq] at h2
    subst h2
    obtain ⟨a, vs, rfl, hq, it⟩ := t2 ys hd
    refine ⟨a, rfl, ⟨vs, SqT.of (tup_sub s2.sub hq)⟩, ?_⟩
    rw [hK]
    refine for_se (walk_tup (K := B.K) (a := a) (xs := vs)) s2 it.len h3 (fun {H' Z' E' Fs'} c s' => ?_) (yld_at it) (for_post q c2)
    exact SqT.of (tup_sub s' (c.le a _ hq))
  | str z =>
    refine .inr (.inr (key fun v H1 Z2 Fs2 s2 c2 d2 l2 t2 st2 => ?_))
    rw [hd] at d2
    rw [d2] at h2
    simp only [items, Option.some.injEq] at h2
    subst h2
    obtain ⟨rfl, hl, hok⟩ := st2 z hd
    refine ⟨z, rfl, ?_⟩
    refine for_se (walk_str (z := z)) s2 (by simp [chars]) h3 (fun {H' Z' E' Fs'} c s' => trivial) ?_ (for_post q c2)
    intro i d x H H' Z hd le _ hy E σ Fs st
    obtain ⟨rfl, c, hc, rfl⟩ := hy
    have e0 : d = .str ⟨#[c]⟩ := by
      have : (chars z)[i]? = some (.str ⟨#[c]⟩) := by
        unfold chars
        rw [List.getElem?_map]
        have : z.cps.toList[i]? = some c := by simpa using hc
        rw [this]
        rfl
      rw [this] at hd
      exact (Option.some.inj hd).symm
    subst e0
    have hcm : c ∈ z.cps.toList := List.mem_of_getElem? (i := i) (by simpa using hc)
    exact ⟨Z, st, Chg.refl _ _ _ _ _, ⟨rfl, (by decide : 1 ≤ 16777216), strOk_one (strOk_iff.mp hok c hcm)⟩, rfl⟩
  | _ =>
    exfalso
    have d2 : ds xs = [x.1] := by
      rcases hcase with ⟨_, _, _, _, rfl, _⟩ | ⟨rfl, _⟩
      · rfl
      · have ec : (BS.esc e x E1).1.1 = x.1 := by unfold BS.esc; split <;> rfl
        simp [ds, ec]
    rw [d2, hd] at h2
    simp [items] at h2
/-- for over a range -/
theorem rng_items {l : List D} {its : List D} (h : items .rng l = some its) : (∃ n, l = [.int n] ∧ inB n = true ∧ its = rng 0 1 0 n.toNat) ∨ (∃ lo hi, l = [.int lo, .int hi] ∧ inB lo = true ∧ inB hi = true ∧ its = rng lo 1 0 (hi - lo).toNat) ∨
    (∃ lo hi c, l = [.int lo, .int hi, .int c] ∧ inB lo = true ∧ inB hi = true ∧ 0 < c ∧ c < 1073741824 ∧ its = rng lo c 0 ((hi - lo + c - 1) / c).toNat) := by
  rcases l with _ | ⟨a, _ | ⟨b, _ | ⟨c, _ | ⟨d, l⟩⟩⟩⟩
  · simp [items] at h
  · cases a <;> simp [items] at h
    exact .inl ⟨_, rfl, h.1, h.2.symm⟩
  · cases a <;> cases b <;> simp [items] at h
    exact .inr (.inl ⟨_, _, rfl, h.1.1, h.1.2, h.2.symm⟩)
  · cases a <;> cases b <;> cases c <;> simp [items] at h
    exact .inr (.inr ⟨_, _, _, rfl, h.1.1.1.1, h.1.1.1.2, h.1.1.2, h.1.2, h.2.symm⟩)
  · cases a <;> simp [items] at h
theorem inB_ok {n : Int} (h : inB n = true) : -(2 ^ 62) ≤ n ∧ n < 2 ^ 62 := by
  simpa [inB] using h
theorem ints_val {K : PySem.W.Frag} {FA : Nat → Addr → Prop} {Z H : Hp} : ∀ {xs : List Val} {vs : List V} {Fds : List (List Addr)} {ns : List Int}, RL K FA Z H xs vs Fds → ds xs = ns.map .int → vs = ns.map .int
  | [], [], [], [], _, _ => rfl
  | x :: xs, v :: vs, F :: Fds, n :: ns, h, e => by
    obtain ⟨xd, xw⟩ := x
    simp only [ds, List.map_cons, List.cons.injEq] at e
    obtain ⟨rfl, e⟩ := e
    have h1 : R K FA Z H xw (.int n) v F := h.1
    rw [h1.1, ints_val h.2 e]
    rfl
  | [], _, _, _ :: _, _, e => by simp [ds] at e
  | _ :: _, _, _, [], _, e => by simp [ds] at e
  | [], [], _ :: _, [], h, _ => h.elim
  | [], _ :: _, _, [], h, _ => h.elim
  | _ :: _, [], _, _ :: _, h, _ => h.elim
  | _ :: _, _ :: _, [], _ :: _, h, _ => h.elim
theorem rng1 (lo : Int) (n : Nat) : Yld B.K B.FA (rng lo 1 0 n) Z1 G (YFn fun i => .int (lo + i)) := yld_int fun i => by simp
theorem range_src {es : List Ex} {ta : TA} {n : Nat} {D : Ends} {σ : Sl} {H : Hp} (h : SS B (.for_ T .rng es b) D σ H) : SXs B es σ H fun vs H1 => ∃ its, (∃ ns : List Int, items .rng (ns.map .int) = some its ∧ vs = ns.map .int) ∧
    ∀ (J : It) (n : Nat) (Y : Nat → Hp → V → Hp → Prop), Walk J n (fun _ => True) Y → n = its.length → (∀ Z1, Yld B.K B.FA its Z1 (fun _ => True) Y) →
      ∃ W : Nat → Nat → L2.St → Hp → Prop, (∃ m, W 0 m σ H1) ∧ ∀ i m σ H, W i m σ H →
      (J.stop i H ∧ D.nx σ H) ∨ (J.go i H ∧ ∃ N : L2.St → Hp → Prop, (∀ σ' H', N σ' H' → ∃ m', m' < m ∧ W (i + 1) m' σ' H') ∧ ∀ x H', J.yld i H x H' → tgT B.K T x σ H' fun σ2 H2 => SS B b { D with nx := N, ct := N, bk := D.nx } σ2 H2) := by
  obtain ⟨Z, E, Fs, o, s, hx, q⟩ := h
  obtain ⟨xs, E1', its, h1, h2, h3⟩ := ex_for hx
  refine ⟨Z, E, Fs, xs, E1', s, h1, fun vs H1 Z1 Fds Fs1 p => ⟨its, ?_, fun J n Y w hn hY => ?_⟩⟩
  · have hr := rng_items h2
    obtain ⟨ns, hns⟩ : ∃ ns : List Int, ds xs = ns.map BS.D.int := by
      rcases hr with ⟨n, e, _⟩ | ⟨lo, hi, e, _⟩ | ⟨lo, hi, c, e, _⟩
      · exact ⟨[n], e⟩
      · exact ⟨[lo, hi], e⟩
      · exact ⟨[lo, hi, c], e⟩
    exact ⟨ns, by rw [← hns]; exact h2, ints_val p.val hns⟩
  · exact for_se w p.st hn h3 (fun _ _ => trivial) (hY Z1) (for_post q p.ch)
theorem ss_range1 (hg' : Gl X "range") (hm : X.mg "range" = none) (ha : PA X [ee] (SXs B [e])) (hg : PG X tgE (tgT B.K T)) (hb : PSs X body (SS B b)) (hxe : X.xe = fun _ _ => False := by rfl) (hc : X.calm = true := by rfl)
    (he : starEach [ee] X.env = [(false, eval ee X.env)] := by rfl) (hs : ∀ x, foldedSetIterable (.Call (.Name "range" p) [ee] [] pos') X.env x = pure x := by intro _; rfl) :
    PS X (.For tgE (.Call (.Name "range" p) [ee] [] pos') body [] pos) (SS B (.for_ T .rng [e] b)) := by
  have hp : PassesOwn (model X.prog X.w) X.A X.env X.xe := by rw [hxe]; exact PassesOwn.never
  refine (ps_for hp hc (pi_range1 hg' hm ha he) hg hb hs).imp fun D σ H h => ?_
  obtain ⟨Z, E, Fs, xs, E1, s, h1, k⟩ := range_src (ta := tNil) (n := 0) h
  refine ⟨Z, E, Fs, xs, E1, s, h1, fun vs H1 Z1 Fds Fs1 p => ?_⟩
  obtain ⟨its, ⟨ns, hi, rfl⟩, kk⟩ := k vs H1 Z1 Fds Fs1 p
  have hl : ∃ n, ns = [n] := by
    have e1 := p.val.length
    have e2 : xs.length = 1 := by
      obtain ⟨_, _, ys, _, h2, rfl⟩ := evs_cons h1
      simp only [evs, Option.some.injEq, Prod.mk.injEq] at h2
      rw [← h2.1]
      rfl
    rw [e2, List.length_map] at e1
    match ns, e1 with
    | [n], _ => exact ⟨n, rfl⟩
  obtain ⟨n, rfl⟩ := hl
  rcases rng_items hi with ⟨n', e, hb', rfl⟩ | ⟨lo, hi', e, _⟩ | ⟨lo, hi', c, e, _⟩
  · simp only [List.map_cons, List.map_nil, List.cons.injEq, BS.D.int.injEq, and_true] at e
    subst e
    obtain ⟨b1, b2⟩ := inB_ok hb'
    exact ⟨n, rfl, b1, b2, kk _ _ _ walk_range (rng_len _ _ _ _).symm fun Z1 => rng1 _ _⟩
  · simp at e
  · simp at e
theorem evs_len {Φ : Phi} : ∀ {es : List Ex} {E E' : En} {xs : List Val}, evs Φ es E = some (xs, E') → xs.length = es.length
  | [], E, E', xs, h => by
    simp only [evs, Option.some.injEq, Prod.mk.injEq] at h
    rw [← h.1]
    rfl
  | e :: es, E, E', xs, h => by
    obtain ⟨_, _, ys, _, h2, rfl⟩ := evs_cons h
    simp [evs_len h2]
theorem ss_range2 (hg' : Gl X "range") (hm : X.mg "range" = none) (ha : PA X [ee, ef] (SXs B [e, f])) (hg : PG X tgE (tgT B.K T)) (hb : PSs X body (SS B b)) (hxe : X.xe = fun _ _ => False := by rfl) (hc : X.calm = true := by rfl)
    (he : starEach [ee, ef] X.env = [(false, eval ee X.env), (false, eval ef X.env)] := by rfl) (he2 : starEach [ef] X.env = [(false, eval ef X.env)] := by rfl) (hs : ∀ x, foldedSetIterable (.Call (.Name "range" p) [ee, ef] [] pos') X.env x = pure x := by intro _; rfl) :
    PS X (.For tgE (.Call (.Name "range" p) [ee, ef] [] pos') body [] pos) (SS B (.for_ T .rng [e, f] b)) := by
  have hp : PassesOwn (model X.prog X.w) X.A X.env X.xe := by rw [hxe]; exact PassesOwn.never
  refine (ps_for hp hc (pi_range2 hg' hm ha he he2) hg hb hs).imp fun D σ H h => ?_
  obtain ⟨Z, E, Fs, xs, E1, s, h1, k⟩ := range_src (ta := tNil) (n := 0) h
  refine ⟨Z, E, Fs, xs, E1, s, h1, fun vs H1 Z1 Fds Fs1 p => ?_⟩
  obtain ⟨its, ⟨ns, hi, rfl⟩, kk⟩ := k vs H1 Z1 Fds Fs1 p
  have e1 := p.val.length
  rw [evs_len h1, List.length_map] at e1
  rcases rng_items hi with ⟨n', e, hb', rfl⟩ | ⟨lo, hi', e, b1, b2, rfl⟩ | ⟨lo, hi', c, e, _⟩
  · have := congrArg List.length e
    simp at this
    simp at e1
    omega
  · match ns, e with
    | [n, m], e =>
      simp only [List.map_cons, List.map_nil, List.cons.injEq, BS.D.int.injEq, and_true] at e
      obtain ⟨rfl, rfl⟩ := e
      obtain ⟨x1, x2⟩ := inB_ok b1
      obtain ⟨x3, x4⟩ := inB_ok b2
      exact ⟨n, m, rfl, ⟨x1, x2, x3, x4⟩, kk _ _ _ walk_range (rng_len _ _ _ _).symm fun Z1 => rng1 _ _⟩
  · have := congrArg List.length e
    simp at this
    simp at e1
    omega
theorem rgc_ok {lo hi c : Int} (h1 : inB lo = true) (h2 : inB hi = true) (h3 : 0 < c) (h4 : c < 1073741824) : RgC lo hi c ((hi - lo + c - 1) / c).toNat := by
  obtain ⟨a1, a2⟩ := inB_ok h1
  obtain ⟨b1, b2⟩ := inB_ok h2
  have e : Builtin.Range.rangeSize lo hi c = (((hi - lo + c - 1) / c).toNat : Int) := by
    unfold Builtin.Range.rangeSize
    rw [if_pos h3]
    split
    · rename_i hl
      have e1 : hi - lo + c - 1 = (hi - lo - 1) + c := by omega
      have e2 : ((hi - lo - 1) + c) / c = (hi - lo - 1) / c + 1 := Int.add_ediv_of_dvd_right (Int.dvd_refl c) |>.trans (by rw [Int.ediv_self (by omega)])
      rw [e1, e2]
      have : 0 ≤ (hi - lo - 1) / c := Int.ediv_nonneg (by omega) (by omega)
      omega
    · rename_i hl
      have : (hi - lo + c - 1) / c ≤ 0 := by
        have : (hi - lo + c - 1) / c < 1 := Int.ediv_lt_of_lt_mul h3 (by omega)
        omega
      omega
  refine ⟨by omega, by omega, ?_, e⟩
  unfold Builtin.Range.small
  rw [e]
  have n1 : (((hi - lo + c - 1) / c).toNat : Int) < 2 ^ 63 := by
    by_cases hl : lo < hi
    · have e1 : hi - lo + c - 1 = (hi - lo - 1) + c := by omega
      have e2 : ((hi - lo - 1) + c) / c = (hi - lo - 1) / c + 1 := Int.add_ediv_of_dvd_right (Int.dvd_refl c) |>.trans (by rw [Int.ediv_self (by omega)])
      rw [e1, e2]
      have := Int.ediv_le_self (a := hi - lo - 1) c (by omega)
      omega
    · have : (hi - lo + c - 1) / c < 1 := Int.ediv_lt_of_lt_mul h3 (by omega)
      omega
  have n0 : (0 : Int) ≤ (((hi - lo + c - 1) / c).toNat : Int) := by omega
  simp only [Builtin.Range.rangeFitsLong, Bool.and_eq_true, Bool.or_eq_true, decide_eq_true_eq, beq_iff_eq, if_pos h3]
  omega
theorem ss_range3 (hg' : Gl X "range") (hm : X.mg "range" = none) (ha : PA X [ee, ef, eg] (SXs B [e, f, g])) (hg : PG X tgE (tgT B.K T)) (hb : PSs X body (SS B b)) (hxe : X.xe = fun _ _ => False := by rfl) (hc : X.calm = true := by rfl)
    (he : starEach [ee, ef, eg] X.env = (false, eval ee X.env) :: starEach [ef, eg] X.env := by rfl) (hpl : (backTo pos' (starEach [ef, eg] X.env)).any (·.1) = false := by rfl) (hs : ∀ x, foldedSetIterable (.Call (.Name "range" p) [ee, ef, eg] [] pos') X.env x = pure x := by intro _; rfl) :
    PS X (.For tgE (.Call (.Name "range" p) [ee, ef, eg] [] pos') body [] pos) (SS B (.for_ T .rng [e, f, g] b)) := by
  have hp : PassesOwn (model X.prog X.w) X.A X.env X.xe := by rw [hxe]; exact PassesOwn.never
  refine (ps_for hp hc (pi_range3 hg' hm ha he hpl) hg hb hs).imp fun D σ H h => ?_
  obtain ⟨Z, E, Fs, xs, E1, s, h1, k⟩ := range_src (ta := tNil) (n := 0) h
  refine ⟨Z, E, Fs, xs, E1, s, h1, fun vs H1 Z1 Fds Fs1 p => ?_⟩
  obtain ⟨its, ⟨ns, hi, rfl⟩, kk⟩ := k vs H1 Z1 Fds Fs1 p
  have e1 := p.val.length
  rw [evs_len h1, List.length_map] at e1
  rcases rng_items hi with ⟨n', e, hb', rfl⟩ | ⟨lo, hi', e, b1, b2, rfl⟩ | ⟨lo, hi', c, e, b1, b2, b3, b4, rfl⟩
  · have := congrArg List.length e
    simp at this
    simp at e1
    omega
  · have := congrArg List.length e
    simp at this
    simp at e1
    omega
  · match ns, e with
    | [n, m, r], e =>
      simp only [List.map_cons, List.map_nil, List.cons.injEq, BS.D.int.injEq, and_true] at e
      obtain ⟨rfl, rfl, rfl⟩ := e
      exact ⟨n, m, r, _, rfl, rgc_ok b1 b2 b3 b4, kk _ _ _ walk_rangeC (rng_len _ _ _ _).symm fun Z1 => yld_int fun i => rfl⟩
end
end BS

set_option Elab.async false
set_option linter.all false
set_option maxRecDepth 100000
set_option maxHeartbeats 2000000
namespace BS
open PySem PySem.Spec PyProof.Rows L2
/-! ### slots wiped and put back -/
theorem wipes_len (E : En) : ∀ is : List Nat, (wipes is E).length = E.length
  | [] => rfl
  | i :: is => by simp [wipes, wipes_len E is]
theorem wipes_out {E : En} {j : Nat} : ∀ {is : List Nat}, j ∉ is → (wipes is E)[j]? = E[j]?
  | [], _ => rfl
  | i :: is, h => by
    have n1 : i ≠ j := fun z => h (by rw [z]; exact List.mem_cons_self)
    show ((wipes is E).set i none)[j]? = _
    rw [List.getElem?_set_ne n1]
    exact wipes_out fun z => h (List.mem_cons_of_mem _ z)
theorem wipes_in {E : En} {j : Nat} : ∀ {is : List Nat}, j ∈ is → j < E.length → (wipes is E)[j]? = some none
  | i :: is, h, hl => by
    show ((wipes is E).set i none)[j]? = _
    by_cases e : i = j
    · subst e
      rw [List.getElem?_set_self (by rw [wipes_len]; exact hl)]
    · rw [List.getElem?_set_ne e]
      refine wipes_in ?_ hl
      rcases List.mem_cons.mp h with z | z
      · exact absurd z.symm e
      · exact z
theorem wipe_out {σ : Sl} {j : Nat} : ∀ {is : List Nat}, j ∉ is → (wipe σ is)[j]? = σ[j]?
  | [], _ => rfl
  | i :: is, h => by
    have n1 : i ≠ j := fun z => h (by rw [z]; exact List.mem_cons_self)
    show ((wipe σ is).set i none)[j]? = _
    rw [List.getElem?_set_ne n1]
    exact wipe_out fun z => h (List.mem_cons_of_mem _ z)
theorem wipe_in {σ : Sl} {j : Nat} : ∀ {is : List Nat}, j ∈ is → j < σ.length → (wipe σ is)[j]? = some none
  | i :: is, h, hl => by
    show ((wipe σ is).set i none)[j]? = _
    by_cases e : i = j
    · subst e
      rw [List.getElem?_set_self (by rw [wipe_length]; exact hl)]
    · rw [List.getElem?_set_ne e]
      refine wipe_in ?_ hl
      rcases List.mem_cons.mp h with z | z
      · exact absurd z.symm e
      · exact z
theorem wipe_eq {σ σ' : Sl} {is : List Nat} (hl : σ'.length = σ.length) (h : ∀ j, j ∉ is → σ'[j]? = (wipe σ is)[j]?) : wipe σ' is = wipe σ is := by
  apply List.ext_getElem?
  intro j
  by_cases hj : j ∈ is
  · by_cases hjl : j < σ.length
    · rw [wipe_in hj hjl, wipe_in hj (by omega)]
    · rw [List.getElem?_eq_none (by rw [wipe_length]; omega), List.getElem?_eq_none (by rw [wipe_length]; omega)]
  · rw [wipe_out hj]
    exact h j hj
theorem back_len (E0 E : En) : ∀ is : List Nat, (back is E0 E).length = E.length
  | [] => rfl
  | i :: is => by simp [back, back_len E0 E is]
theorem back_out {E0 E : En} {j : Nat} : ∀ {is : List Nat}, j ∉ is → (back is E0 E)[j]? = E[j]?
  | [], _ => rfl
  | i :: is, h => by
    have n1 : i ≠ j := fun z => h (by rw [z]; exact List.mem_cons_self)
    show ((back is E0 E).set i _)[j]? = _
    rw [List.getElem?_set_ne n1]
    exact back_out fun z => h (List.mem_cons_of_mem _ z)
theorem back_in {E0 E : En} {j : Nat} : ∀ {is : List Nat}, j ∈ is → j < E.length → (back is E0 E)[j]? = some (E0.getD j none)
  | i :: is, h, hl => by
    show ((back is E0 E).set i _)[j]? = _
    by_cases e : i = j
    · subst e
      rw [List.getElem?_set_self (by rw [back_len]; exact hl)]
    · rw [List.getElem?_set_ne e]
      refine back_in ?_ hl
      rcases List.mem_cons.mp h with z | z
      · exact absurd z.symm e
      · exact z
def wipeF (Fs : List (List Addr)) : List Nat → List (List Addr)
  | [] => Fs
  | i :: is => (wipeF Fs is).set i []
theorem wipeF_len (Fs : List (List Addr)) : ∀ is : List Nat, (wipeF Fs is).length = Fs.length
  | [] => rfl
  | i :: is => by simp [wipeF, wipeF_len Fs is]
theorem wipeF_out {Fs : List (List Addr)} {j : Nat} : ∀ {is : List Nat}, j ∉ is → (wipeF Fs is).getD j [] = Fs.getD j []
  | [], _ => rfl
  | i :: is, h => by
    have n1 : i ≠ j := fun z => h (by rw [z]; exact List.mem_cons_self)
    show ((wipeF Fs is).set i []).getD j [] = _
    rw [getD_set_ne n1]
    exact wipeF_out fun z => h (List.mem_cons_of_mem _ z)
theorem wipeF_in {Fs : List (List Addr)} {j : Nat} : ∀ {is : List Nat}, j ∈ is → (wipeF Fs is).getD j [] = []
  | i :: is, h => by
    show ((wipeF Fs is).set i []).getD j [] = _
    by_cases e : i = j
    · subst e
      rw [List.getD_eq_getElem?_getD]
      by_cases hl : i < (wipeF Fs is).length
      · rw [List.getElem?_set_self hl]; rfl
      · rw [List.getElem?_eq_none (by simpa using hl)]; rfl
    · rw [getD_set_ne e]
      refine wipeF_in ?_
      rcases List.mem_cons.mp h with z | z
      · exact absurd z.symm e
      · exact z
theorem wipeF_sub {Fs : List (List Addr)} : ∀ {is : List Nat}, (wipeF Fs is).flatten.Sublist Fs.flatten
  | [] => List.Sublist.refl _
  | i :: is => unset_sub.trans wipeF_sub
section
variable {K : PySem.W.Frag} {FA : Nat → Addr → Prop} {Z Z' H H' : Hp}
theorem RE.mk' : ∀ {E : En} {σ : Sl} {Fs : List (List Addr)}, E.length = σ.length → Fs.length = σ.length → (∀ j x v, E[j]? = some x → σ[j]? = some v → RO K FA Z H x v (Fs.getD j [])) → RE K FA Z H E σ Fs
  | [], [], [], _, _, _ => trivial
  | x :: E, v :: σ, F :: Fs, h1, h2, h => by
    refine ⟨?_, RE.mk' (by simpa using h1) (by simpa using h2) fun j y u e1 e2 => ?_⟩
    · have := h 0 x v rfl rfl
      simpa using this
    · have := h (j + 1) y u (by simpa using e1) (by simpa using e2)
      simpa using this
  | [], _ :: _, _, h, _, _ => by simp at h
  | _ :: _, [], _, h, _, _ => by simp at h
  | [], [], _ :: _, _, h, _ => by simp at h
  | _ :: _, _ :: _, [], _, h, _ => by simp at h
/-- the slots is hold nothing of their own any more -/
theorem Stt.wiped {E : En} {σ : Sl} {Fs : List (List Addr)} (st : Stt K FA Z H E σ Fs) (is : List Nat) : Stt K FA Z H (wipes is E) (wipe σ is) (wipeF Fs is) := by
  obtain ⟨l1, l2⟩ := st.re.length
  refine ⟨st.sub, RE.mk' (by rw [wipes_len, wipe_length, l1]) (by rw [wipeF_len, wipe_length, l2]) fun j x v e1 e2 => ?_, st.nd.sublist wipeF_sub, fun a ha => st.zf a (wipeF_sub.subset ha)⟩
  by_cases hj : j ∈ is
  · have hl : j < E.length := by
      have := (List.getElem?_eq_some_iff.mp e1).1
      rwa [wipes_len] at this
    rw [wipes_in hj hl] at e1
    cases e1
    exact wipeF_in hj
  · rw [wipes_out hj] at e1
    rw [wipe_out hj] at e2
    obtain ⟨v', hv, ro⟩ := st.re.get e1
    rw [e2] at hv
    cases hv
    rw [wipeF_out hj]
    exact ro
theorem keep_nil {E : En} {σ : Sl} {Fs : List (List Addr)} (st : Stt K FA Z H E σ Fs) {is : List Nat} (h : keepable is E = true) : ∀ j ∈ is, j < E.length ∧ Fs.getD j [] = [] ∧ ∀ v, σ[j]? = some v → ∀ Z' H', Le Z Z' → RO K FA Z' H' (E.getD j none) v [] := fun j hj => by
  have hk := List.all_eq_true.mp h j hj
  cases e : E[j]? with
  | none => rw [e] at hk; cases hk
  | some o =>
    rw [e] at hk
    have hl := (List.getElem?_eq_some_iff.mp e).1
    obtain ⟨v', hv, ro⟩ := st.re.get e
    have ed : E.getD j none = o := by rw [List.getD_eq_getElem?_getD, e]; rfl
    cases o with
    | none => exact ⟨hl, ro, fun v _ Z' H' _ => by rw [ed]; rfl⟩
    | some x =>
      obtain ⟨d, w⟩ := x
      cases v' with
      | none => exact ro.elim
      | some u =>
        have ro : R K FA Z H w d u (Fs.getD j []) := ro
        simp only [Bool.or_eq_true, decide_eq_true_eq] at hk
        have shr : Fs.getD j [] = [] ∧ ∀ Z' H', Le Z Z' → R K FA Z' H' w d u [] := by
          rcases hk with z | z
          · obtain ⟨e0, kr⟩ := R_plain d z ro
            exact ⟨e0, fun Z' H' le => R_keep (H := H') le _ (fun _ m => (by cases m)) (kr w H')⟩
          · subst z
            have e0 := R_sh d ro
            rw [e0] at ro
            exact ⟨e0, fun Z' H' le => R_share (H := H) le _ (fun _ m => (by cases m)) ro⟩
        refine ⟨hl, shr.1, fun v hv2 Z' H' le => ?_⟩
        rw [hv] at hv2
        cases hv2
        rw [ed]
        exact shr.2 Z' H' le
theorem Stt.backed {Z1 H1 : Hp} {E1 E : En} {σ : Sl} {Fs1 Fs : List (List Addr)} {is : List Nat} (st1 : Stt K FA Z1 H1 E1 σ Fs1) (hk : keepable is E1 = true) (le : Le Z1 Z) (st : Stt K FA Z H E (wipe σ is) Fs) (hF : ∀ j ∈ is, Fs.getD j [] = []) :
    Stt K FA Z H (back is E1 E) σ Fs := by
  obtain ⟨l1, l2⟩ := st.re.length
  rw [wipe_length] at l1 l2
  refine ⟨st.sub, RE.mk' (by rw [back_len, l1]) l2 fun j x v e1 e2 => ?_, st.nd, st.zf⟩
  by_cases hj : j ∈ is
  · have hl : j < E.length := by
      have := (List.getElem?_eq_some_iff.mp e1).1
      rwa [back_len] at this
    rw [back_in hj hl] at e1
    cases e1
    rw [hF j hj]
    exact (keep_nil st1 hk j hj).2.2 v e2 Z H le
  · rw [back_out hj] at e1
    obtain ⟨v', hv, ro⟩ := st.re.get e1
    rw [wipe_out hj, e2] at hv
    cases hv
    exact ro
/-- a cell that is nobody's is changed -/
theorem Stt.other {E : En} {σ : Sl} {Fs : List (List Addr)} {q : Addr} {o : HO} (st : Stt K FA Z H E σ Fs) (h1 : q ∉ Fs.flatten) (h2 : Z q = none) : Stt K FA Z (upd H q o) E σ Fs :=
  ⟨fun a u e => by
      have ne : a ≠ q := fun z => by rw [z, h2] at e; cases e
      rw [upd_ne ne]
      exact st.sub a u e,
    RE.keep (Le.refl Z) (fun a ha => upd_ne fun z => h1 (z ▸ ha)) st.re, st.nd, st.zf⟩
end
end BS

set_option Elab.async false
set_option linter.all false
set_option maxRecDepth 100000
set_option maxHeartbeats 2000000
namespace BS
open PySem PySem.Spec PyProof.Rows L2
section
variable {B : Bk}
/-- a comprehension's turn -/
def turnL (Φ : Phi) (shr : Bool) (elt : Ex) (tg : Tg) (cond : Ex) (x : Val) (E : En) : Option (Option Val × En) := do
  let E ← bindT tg x (wipes (tgs tg) E)
  let (c, E) ← ev Φ cond E
  match c.1 with
  | .bl true => do
    let (y, E) ← ev Φ elt E
    let (y, E) := esc elt y E
    if plain y.1 || shr || decide (y.2 = .deep) then some (some y, E) else none
  | .bl false => some (none, E)
  | _ => none
theorem turnL_inv {Φ : Phi} {shr : Bool} {elt : Ex} {tg : Tg} {cond : Ex} {x : Val} {E E' : En} {r : Option Val} (h : turnL Φ shr elt tg cond x E = some (r, E')) : ∃ E2 c w E3, bindT tg x (wipes (tgs tg) E) = some E2 ∧ ev Φ cond E2 = some ((.bl c, w), E3) ∧
    if c = true then ∃ y E4, ev Φ elt E3 = some (y, E4) ∧ (plain (esc elt y E4).1.1 = true ∨ shr = true ∨ (esc elt y E4).1.2 = .deep) ∧ r = some (esc elt y E4).1 ∧ E' = (esc elt y E4).2 else r = none ∧ E' = E3 := by
  simp only [turnL, Option.bind_eq_bind, Option.bind_eq_some_iff, Prod.exists] at h
  obtain ⟨E2, h1, cd, cw, E3, h2, h3⟩ := h
  cases cd with
  | bl c =>
    cases c with
    | true =>
      simp only [Option.bind_eq_some_iff, Prod.exists] at h3
      obtain ⟨yd, yw, E4, h4, h5⟩ := h3
      split at h5
      · rename_i hc
        simp only [Option.some.injEq, Prod.mk.injEq] at h5
        obtain ⟨rfl, rfl⟩ := h5
        have hc' : plain (esc elt (yd, yw) E4).1.1 = true ∨ shr = true ∨ (esc elt (yd, yw) E4).1.2 = .deep := by simpa [or_assoc] using hc
        exact ⟨E2, true, cw, E3, h1, h2, by simp only [if_true]; exact ⟨(yd, yw), E4, h4, hc', rfl, rfl⟩⟩
      · cases h5
    | false =>
      simp only [Option.some.injEq, Prod.mk.injEq] at h3
      exact ⟨E2, false, cw, E3, h1, h2, by simp only [Bool.false_eq_true, if_false]; exact ⟨h3.1.symm, h3.2.symm⟩⟩
  | _ => cases h3
theorem Chg.wiped {w : List Nat} {Z H Z' H' : Hp} {E E' : En} {Fs Fs' : List (List Addr)} (c : Chg w Z H E Fs Z' H' E' Fs') {is : List Nat} (hs : ∀ i ∈ is, i ∈ w) : Chg w Z H E Fs Z' H' (wipes is E') (wipeF Fs' is) := by
  refine ⟨c.le, c.zn, fun j a ha => ?_, c.frame, c.there, fun j hj => ?_⟩
  · by_cases h : j ∈ is
    · rw [wipeF_in h] at ha; cases ha
    · rw [wipeF_out h] at ha; exact c.fr j a ha
  · have hj' : j ∉ is := fun z => hj (hs j z)
    rw [wipes_out hj', wipeF_out hj']
    exact c.same j hj
theorem Chg.other {w : List Nat} {Z H Z' H' : Hp} {E E' : En} {Fs Fs' : List (List Addr)} (c : Chg w Z H E Fs Z' H' E' Fs') {q : Addr} {o : HO} (hq : H q = none ∨ WC Fs w q) : Chg w Z H E Fs Z' (upd H' q o) E' Fs' := by
  refine ⟨c.le, c.zn, c.fr, fun a u h n => ?_, fun a h => ?_, c.same⟩
  · have ne : a ≠ q := fun z => by
      subst z
      rcases hq with y | y
      · rw [y] at h; cases h
      · exact n y
    rw [upd_ne ne]
    exact c.frame a u h n
  · by_cases e : a = q
    · subst e; rw [upd_same]; exact fun z => by cases z
    · rw [upd_ne e]; exact c.there a h
abbrev lcW (tg : Tg) (elt cond : Ex) : List Nat := tgs tg ++ (wrx elt ++ wr cond)
theorem lc_se {J : It} {n : Nat} {G : Hp → Prop} {Y : Nat → Hp → V → Hp → Prop} (w : Walk J n G Y) {tg : Tg} {shr : Bool} {elt cond : Ex} {its acc : List D} {Z1 H1 : Hp} {E1 E2 : En} {σ : Sl} {Fs1 : List (List Addr)} {D0 : Addr} {Qd : Hp → Prop}
    (st : Stt B.K B.FA Z1 H1 E1 σ Fs1) (hk : keepable (tgs tg) E1 = true) (hn : n = its.length) (hl : its.length ≤ line) (he : compL (turnL B.Φ shr elt tg cond) its E1 [] = some (acc, E2))
    (hG : ∀ {H' Z' E' Fs'}, Chg (lcW tg elt cond) Z1 H1 E1 Fs1 Z' H' E' Fs' → Sub Z' H' → G H') (hY : Yld B.K B.FA its Z1 G Y) (hD : H1 D0 = none)
    (q : ∀ H' Z' Fd Fs', Pe B.K B.FA (lcW tg elt cond) none Z1 H1 E1 Fs1 σ (.lst acc, if shr && !plains acc then .top else .deep) (back (tgs tg) E1 E2) (.ref D0) Z' H' Fd Fs' → Qd H') :
    ∃ W : Nat → Nat → Hp → Prop, (∃ m, W 0 m (upd H1 D0 (.lst []))) ∧ ∀ i m H, W i m H → (J.stop i H ∧ Qd H) ∨ (J.go i H ∧ ∃ Nx : Hp → Prop, (∀ H', Nx H' → ∃ m', m' < m ∧ W (i + 1) m' H') ∧ ∀ x H', J.yld i H x H' → tgT B.K tg x (wipe σ (tgs tg)) H' fun σ2 H2 => wipe σ2 (tgs tg) = wipe σ (tgs tg) ∧ ST B cond σ2 H2 fun b H3 =>
      if b = true then SE B elt σ2 H3 fun y H4 => ∃ acc, H4 D0 = some (.lst acc) ∧ acc.length < sizeLine ∧ Nx (upd H4 D0 (.lst (acc ++ [y]))) else Nx H3) := by
  subst hn
  have lcmono : ∀ {w' : List Nat}, (∀ i ∈ w', i ∈ lcW tg elt cond) → ∀ i, i ∈ lcW tg elt cond ++ w' → i ∈ lcW tg elt cond := fun h i hi => (List.mem_append.mp hi).elim id (h i)
  refine lc_it w (fun i H => ∃ Z' E' Fs' ac vs G', Stt B.K B.FA Z' H (wipes (tgs tg) E') (wipe σ (tgs tg)) Fs' ∧ Chg (lcW tg elt cond) Z1 H1 E1 Fs1 Z' H (wipes (tgs tg) E') Fs' ∧ H D0 = some (.lst vs) ∧ Rs B.K B.FA Z' H (if shr then .sh else .deep) ac vs G' ∧
      ((D0 :: G') ++ Fs'.flatten).Nodup ∧ (∀ a ∈ D0 :: G', Z' a = none) ∧ (∀ a ∈ D0 :: G', H1 a = none ∨ WC Fs1 (lcW tg elt cond) a) ∧ compL (turnL B.Φ shr elt tg cond) (its.drop i) E' ac = some (acc, E2) ∧ ac.length ≤ i ∧ (∀ j ∈ tgs tg, Fs'.getD j [] = []))
    ?_ (fun i H _ ⟨Z', E', Fs', ac, vs, G', s', c', _⟩ => hG c' s'.sub) ?_ ?_
  · -- the start
    have sw := (st.laid (o := .lst []) hD).wiped (tgs tg)
    have hfl : ∀ j ∈ tgs tg, Fs1.getD j [] = [] := fun j hj => (keep_nil st hk j hj).2.1
    refine ⟨Z1, E1, wipeF Fs1 (tgs tg), [], [], [], sw, ⟨Le.refl _, fun a u h => .inl h, fun j a ha => ?_, fun a u h _ => upd_keep hD a u h, fun a h => ?_, fun j hj => ?_⟩, upd_same, ?_, ?_, fun a ha => ?_, fun a ha => ?_, he, Nat.le_refl _, fun j hj => wipeF_in hj⟩
    · by_cases hj : j ∈ tgs tg
      · rw [wipeF_in hj] at ha; cases ha
      · rw [wipeF_out hj] at ha; exact .inl ha
    · by_cases e : a = D0
      · rw [e, upd_same]; exact fun z => by cases z
      · rw [upd_ne e]; exact h
    · have hj' : j ∉ tgs tg := fun z => hj (List.mem_append_left _ z)
      exact ⟨wipes_out hj', wipeF_out hj'⟩
    · cases shr <;> exact ⟨rfl, rfl⟩
    · exact List.nodup_cons.mpr ⟨fun m => st.re.there (wipeF_sub.subset m) hD, sw.nd⟩
    · have e : a = D0 := by simpa using ha
      rw [e]
      exact st.sub.none hD
    · have e : a = D0 := by simpa using ha
      rw [e]
      exact .inl hD
  · -- a turn
    rintro i x H H2 hi ⟨Z', E', Fs', ac, vs, G', s', c', hd, hr, nd, zf, fr, e', hlen, hfl⟩ hy
    obtain ⟨d, hdi⟩ : ∃ d, its[i]? = some d := ⟨_, List.getElem?_eq_getElem hi⟩
    obtain ⟨Zn, s2, c2, r2⟩ := hY i d x H H2 Z' hdi c'.le (hG c' s'.sub) hy (wipes (tgs tg) E') (wipe σ (tgs tg)) Fs' s'
    rw [List.drop_eq_getElem_cons hi] at e'
    have ed : its[i] = d := by
      rw [List.getElem?_eq_getElem hi] at hdi
      exact Option.some.inj hdi
    rw [ed] at e'
    simp only [compL] at e'
    cases et : turnL B.Φ shr elt tg cond (shv d) E' with
    | none => rw [et] at e'; cases e'
    | some rr =>
      obtain ⟨r, Et⟩ := rr
      rw [et] at e'
      obtain ⟨Eb, cb, cw, Ec, hb, hc, hrest⟩ := turnL_inv et
      -- what is made so far stands aside
      have aside : ∀ {wz : List Nat} {Zz Hz : Hp} {Ez : En} {Fz : List (List Addr)}, Chg wz Z' H (wipes (tgs tg) E') Fs' Zz Hz Ez Fz → (∀ a ∈ D0 :: G', Hz a = H a) ∧ (∀ a ∈ D0 :: G', Zz a = none) ∧ (∀ a ∈ D0 :: G', a ∉ Fz.flatten) := fun {wz Zz Hz Ez Fz} c => by
        have out : ∀ a ∈ D0 :: G', a ∉ Fs'.flatten := fun a ha hb => (List.nodup_append.mp nd).2.2 a ha a hb rfl
        have th : ∀ a ∈ D0 :: G', H a ≠ none := fun a ha z => by
          rcases List.mem_cons.mp ha with rfl | ha
          · rw [hd] at z; cases z
          · exact Rs_there ac hr ha z
        refine ⟨fun a ha => ?_, fun a ha => ?_, fun a ha hb => ?_⟩
        · cases e : H a with
          | none => exact absurd e (th a ha)
          | some u => exact c.frame a u e fun z => out a ha z.flat
        · cases e : Zz a with
          | none => rfl
          | some u =>
            rcases c.zn a u e with z | z | z
            · rw [zf a ha] at z; cases z
            · exact absurd z (out a ha)
            · exact absurd z (th a ha)
        · rcases c.flat hb with z | z
          · exact out a ha z
          · exact th a ha z
      have pe : Pe B.K B.FA (lcW tg elt cond) none Z1 H1 E1 Fs1 (wipe σ (tgs tg)) (shv d) (wipes (tgs tg) E') x Zn H2 [] Fs' :=
        ⟨s2, (c'.trans c2).mono fun i hi => (by simpa using hi), r2, fun _ => ⟨by simpa using s2.nd, fun _ m => (by cases m), fun _ m => (by cases m)⟩, fun _ _ z => (by cases z)⟩
      have pe' : Pe B.K B.FA [] none Z' H (wipes (tgs tg) E') Fs' (wipe σ (tgs tg)) (shv d) (wipes (tgs tg) E') x Zn H2 [] Fs' :=
        ⟨s2, c2, r2, fun _ => ⟨by simpa using s2.nd, fun _ m => (by cases m), fun _ m => (by cases m)⟩, fun _ _ z => (by cases z)⟩
      refine bind_ok pe' hb fun σ3 Fs3 s3 c3 g3 => ?_
      have ew : wipe σ3 (tgs tg) = wipe σ (tgs tg) := by
        have l3 := s3.re.length
        have l2 := s2.re.length
        have lb : Eb.length = (wipes (tgs tg) E').length := by
          have : ∀ (is : List Nat) (ds : List D) (w : Ow) (E E2 : En), binds is ds w E = some E2 → E2.length = E.length := fun is => by
            induction is with
            | nil => intro ds w E E2 h; cases ds <;> simp [binds] at h; rw [h]
            | cons i is ih => intro ds w E E2 h; cases ds with
              | nil => simp [binds] at h
              | cons d ds => simp only [binds] at h; rw [ih _ _ _ _ h]; simp
          cases tg with
          | v i => simp only [bindT, Option.some.injEq] at hb; rw [← hb]; simp
          | t is =>
            generalize shv d = sd at hb
            obtain ⟨sd, sw⟩ := sd
            cases sd <;> simp [bindT] at hb
            exact this _ _ _ _ _ hb.2
        refine wipe_eq ?_ fun j hj => g3 j hj
        have := wipe_length σ (tgs tg)
        omega
      refine ⟨ew, Zn, Eb, Fs3, cb, cw, Ec, s3, hc, fun H3 Z3 Fs4 s4 c4 => ?_⟩
      have c34 := c3.trans c4
      have subT : ∀ j ∈ tgs tg, j ∈ lcW tg elt cond := fun j hj => List.mem_append_left _ hj
      have subc : ∀ j, j ∈ (tgs tg ++ []) ++ wr cond → j ∈ lcW tg elt cond := fun j hj => by
        simp only [List.append_nil, List.mem_append] at hj ⊢
        rcases hj with z | z
        · exact .inl z
        · exact .inr (.inr z)
      cases cb with
      | false =>
        simp only [Bool.false_eq_true, if_false] at hrest ⊢
        obtain ⟨rfl, rfl⟩ := hrest
        simp only at e'
        obtain ⟨k1, k2, k3⟩ := aside c34
        have sw := s4.wiped (tgs tg)
        rw [ew] at sw
        refine ⟨Z3, Et, wipeF Fs4 (tgs tg), ac, vs, G', sw, ((c'.trans c34).mono (lcmono subc)).wiped subT, (k1 D0 List.mem_cons_self).trans hd, Rs_keep c34.le _ (fun a ha => k1 a (List.mem_cons_of_mem _ ha)) hr, ?_, k2, fr, e', Nat.le_succ_of_le hlen, fun j hj => wipeF_in hj⟩
        refine List.nodup_append.mpr ⟨(List.nodup_append.mp nd).1, sw.nd, fun a ha b hb => ?_⟩
        rintro rfl
        exact k3 a ha (wipeF_sub.subset hb)
      | true =>
        simp only [if_true] at hrest ⊢
        obtain ⟨y, E4, h4, hfl2, rfl, rfl⟩ := hrest
        simp only at e'
        refine se_x ⟨Z3, Ec, Fs4, y, E4, s4, h4, fun v H4 Z4 Fd Fs5 p => ?_⟩
        have c35 := c34.trans p.ch
        have sub5 : ∀ j, j ∈ ((tgs tg ++ []) ++ wr cond) ++ wrx elt → j ∈ lcW tg elt cond := fun j hj => by
          simp only [List.append_nil, List.mem_append] at hj ⊢
          rcases hj with (z | z) | z
          · exact .inl z
          · exact .inr (.inr z)
          · exact .inr (.inl z)
        have cAll := (c'.trans c35).mono (lcmono sub5)
        obtain ⟨k1, k2, k3⟩ := aside c35
        obtain ⟨pn, pz, pf⟩ := p.ex rfl
        have fdd : ∀ a ∈ Fd, H1 a = none ∨ WC Fs1 (lcW tg elt cond) a := fun a ha => by
          have c14 := (c'.trans c34).mono (lcmono subc)
          rcases pf a ha with z | z
          · exact .inl (c14.free z)
          · exact ((c14.wc z).imp (fun w => w.mono fun i hi => (List.mem_append.mp hi).elim id fun z => List.mem_append_right _ (List.mem_append_left _ z)) id).symm
        -- the new part's cells are not those of the old ones
        have fdnew : ∀ a ∈ D0 :: G', a ∉ Fd := fun a ha hb => by
          obtain ⟨l1, l2, l3⟩ := aside c34
          have th : H3 a ≠ none := by
            rw [l1 a ha]
            intro z
            rcases List.mem_cons.mp ha with rfl | ha
            · rw [hd] at z; cases z
            · exact Rs_there ac hr ha z
          rcases pf a hb with z | z
          · exact th z
          · exact l3 a ha z.flat
        refine ⟨vs, (k1 D0 List.mem_cons_self).trans hd, ?_, ?_⟩
        · rw [Rs_len hr]
          exact Nat.lt_of_le_of_lt hlen (Nat.lt_of_lt_of_le hi hl)
        · have hr4 : Rs B.K B.FA Z4 H4 (if shr = true then .sh else .deep) ac vs G' := Rs_keep c35.le _ (fun a ha => k1 a (List.mem_cons_of_mem _ ha)) hr
          have fin : ∀ (Z5 : Hp) (Fy : List Addr), Le Z4 Z5 → Stt B.K B.FA Z5 H4 (esc elt y E4).2 σ3 Fs5 → Chg (lcW tg elt cond) Z1 H1 E1 Fs1 Z5 H4 (esc elt y E4).2 Fs5 → R B.K B.FA Z5 H4 (if shr = true then .sh else .deep) (esc elt y E4).1.1 v Fy → (Fy ++ Fs5.flatten).Nodup → (∀ a ∈ Fy, Z5 a = none) → (∀ a ∈ Fy, a ∈ Fd) → (∀ a ∈ D0 :: G', Z5 a = none) →
              ∃ Z' E' Fs' ac vs' G', Stt B.K B.FA Z' (upd H4 D0 (.lst (vs ++ [v]))) (wipes (tgs tg) E') (wipe σ (tgs tg)) Fs' ∧ Chg (lcW tg elt cond) Z1 H1 E1 Fs1 Z' (upd H4 D0 (.lst (vs ++ [v]))) (wipes (tgs tg) E') Fs' ∧ (upd H4 D0 (.lst (vs ++ [v]))) D0 = some (.lst vs') ∧ Rs B.K B.FA Z' (upd H4 D0 (.lst (vs ++ [v]))) (if shr = true then .sh else .deep) ac vs' G' ∧
              ((D0 :: G') ++ Fs'.flatten).Nodup ∧ (∀ a ∈ D0 :: G', Z' a = none) ∧ (∀ a ∈ D0 :: G', H1 a = none ∨ WC Fs1 (lcW tg elt cond) a) ∧ compL (turnL B.Φ shr elt tg cond) (its.drop (i + 1)) E' ac = some (acc, E2) ∧ ac.length ≤ i + 1 ∧ (∀ j ∈ tgs tg, Fs'.getD j [] = []) := fun Z5 Fy le5 s5 c5 ry n5 z5 fy kz => by
            have so := (s5.other (o := .lst (vs ++ [v])) (k3 D0 List.mem_cons_self) (kz D0 List.mem_cons_self)).wiped (tgs tg)
            rw [ew] at so
            have neD : ∀ a ∈ G' ++ Fy, a ≠ D0 := fun a ha z => by
              subst z
              rcases List.mem_append.mp ha with m | m
              · exact (List.nodup_cons.mp (List.nodup_append.mp nd).1).1 m
              · exact fdnew a List.mem_cons_self (fy a m)
            refine ⟨Z5, _, wipeF Fs5 (tgs tg), ac ++ [(esc elt y E4).1.1], vs ++ [v], G' ++ Fy, so, (c5.other (fr D0 List.mem_cons_self)).wiped subT, upd_same, ?_, ?_, fun a ha => ?_, fun a ha => ?_, e', by simp; omega, fun j hj => wipeF_in hj⟩
            · refine Rs_keep (H := H4) (Le.refl _) _ (fun a ha => upd_ne (neD a ha)) (Rs_app (Rs_keep le5 _ (fun _ _ => rfl) hr4) ⟨v, [], Fy, [], rfl, ry, ⟨rfl, rfl⟩, by simp⟩)
            · have n0 := (List.nodup_append.mp nd).1
              refine List.nodup_append.mpr ⟨?_, so.nd, fun a ha b hb => ?_⟩
              · refine List.nodup_cons.mpr ⟨fun m => neD D0 m rfl, List.nodup_append.mpr ⟨(List.nodup_cons.mp n0).2, (List.nodup_append.mp n5).1, fun a ha b hb => ?_⟩⟩
                rintro rfl
                exact fdnew a (List.mem_cons_of_mem _ ha) (fy a hb)
              · rintro rfl
                have hb' := wipeF_sub.subset hb
                rcases List.mem_cons.mp ha with rfl | ha
                · exact k3 a List.mem_cons_self hb'
                · rcases List.mem_append.mp ha with m | m
                  · exact k3 a (List.mem_cons_of_mem _ m) hb'
                  · exact (List.nodup_append.mp n5).2.2 a m a hb' rfl
            · rcases List.mem_cons.mp ha with rfl | ha
              · exact kz a List.mem_cons_self
              · rcases List.mem_append.mp ha with m | m
                · exact kz a (List.mem_cons_of_mem _ m)
                · exact z5 a m
            · rcases List.mem_cons.mp ha with rfl | ha
              · exact fr a List.mem_cons_self
              · rcases List.mem_append.mp ha with m | m
                · exact fr a (List.mem_cons_of_mem _ m)
                · exact fdd a (fy a m)
          cases shr with
          | true =>
            have out : ∀ a ∈ Fd, a ∉ Fs5.flatten := fun a ha hb => (List.nodup_append.mp pn).2.2 a ha a hb rfl
            refine fin (zadd Z4 H4 Fd) [] (zadd_le pz) (p.st.zadd pz out) (cAll.zadd pz fdd) (R_share (zadd_le pz) _ (fun a ha => zadd_in ha) p.val) (by simpa using p.st.nd) (fun _ m => (by cases m)) (fun _ m => (by cases m)) fun a ha => ?_
            rw [zadd_out (fdnew a ha)]
            exact k2 a ha
          | false =>
            cases hpl : plain (esc elt y E4).1.1 with
            | true =>
              obtain ⟨e0, kr⟩ := R_plain _ hpl p.val
              exact fin Z4 [] (Le.refl _) p.st cAll (kr _ _) (by simpa using p.st.nd) (fun _ m => (by cases m)) (fun _ m => (by cases m)) k2
            | false =>
              have hdeep : (esc elt y E4).1.2 = .deep := by
                rcases hfl2 with z | z | z
                · rw [hpl] at z; cases z
                · cases z
                · exact z
              have pv := p.val
              rw [hdeep] at pv
              exact fin Z4 Fd (Le.refl _) p.st cAll pv pn pz (fun a ha => ha) k2
  · -- the end
    rintro H ⟨Z', E', Fs', ac, vs, G', s', c', hd, hr, nd, zf, fr, e', hlen, hfl⟩
    rw [List.drop_length] at e'
    simp only [compL, Option.some.injEq, Prod.mk.injEq] at e'
    obtain ⟨rfl, rfl⟩ := e'
    have sb := Stt.backed st hk c'.le s' hfl
    have eb : back (tgs tg) E1 (wipes (tgs tg) E') = back (tgs tg) E1 E' := by
      apply List.ext_getElem?
      intro j
      by_cases hj : j ∈ tgs tg
      · by_cases hl2 : j < E'.length
        · rw [back_in hj (by rw [wipes_len]; exact hl2), back_in hj hl2]
        · rw [List.getElem?_eq_none (by rw [back_len, wipes_len]; omega), List.getElem?_eq_none (by rw [back_len]; omega)]
      · rw [back_out hj, back_out hj, wipes_out hj]
    rw [eb] at sb
    have cb : Chg (lcW tg elt cond) Z1 H1 E1 Fs1 Z' H (back (tgs tg) E1 E') Fs' := by
      refine ⟨c'.le, c'.zn, c'.fr, c'.frame, c'.there, fun j hj => ?_⟩
      have hj' : j ∉ tgs tg := fun z => hj (List.mem_append_left _ z)
      obtain ⟨x1, x2⟩ := c'.same j hj
      rw [back_out hj']
      rw [wipes_out hj'] at x1
      exact ⟨x1, x2⟩
    have hout : ∀ a ∈ D0 :: G', a ∉ Fs'.flatten := fun a ha hb => (List.nodup_append.mp nd).2.2 a ha a hb rfl
    have top : ∀ (w' : Ow) (G2 : List Addr), w' ≠ .sh → Rs B.K B.FA Z' H (kid w') ac vs G2 → (∀ a ∈ G2, a ∈ G') → G2.Nodup → Pe B.K B.FA (lcW tg elt cond) none Z1 H1 E1 Fs1 σ (.lst ac, w') (back (tgs tg) E1 E') (.ref D0) Z' H (D0 :: G2) Fs' := fun w' G2 hw rr hs hn2 => by
      refine ⟨sb, cb, ⟨D0, vs, G2, rfl, ?_, rr, ?_⟩, fun _ => ⟨?_, fun a ha => zf a ?_, fun a ha => fr a ?_⟩, fun _ _ z => (by cases z)⟩
      · cases w'
        · exact absurd rfl hw
        · exact hd
        · exact hd
      · cases w'
        · exact absurd rfl hw
        · rfl
        · rfl
      · have n0 := (List.nodup_append.mp nd).1
        refine List.nodup_append.mpr ⟨List.nodup_cons.mpr ⟨fun m => (List.nodup_cons.mp n0).1 (hs _ m), hn2⟩, s'.nd, fun a ha b hb => ?_⟩
        rintro rfl
        refine hout a ?_ hb
        rcases List.mem_cons.mp ha with rfl | ha
        · exact List.mem_cons_self
        · exact List.mem_cons_of_mem _ (hs a ha)
      · rcases List.mem_cons.mp ha with rfl | ha
        · exact List.mem_cons_self
        · exact List.mem_cons_of_mem _ (hs a ha)
      · rcases List.mem_cons.mp ha with rfl | ha
        · exact List.mem_cons_self
        · exact List.mem_cons_of_mem _ (hs a ha)
    have n0 := (List.nodup_cons.mp (List.nodup_append.mp nd).1).2
    cases shr with
    | false =>
      exact q H Z' _ Fs' (top .deep G' (by decide) hr (fun a ha => ha) n0)
    | true =>
      cases hpl : plains ac with
      | true =>
        rw [hpl] at q
        exact q H Z' _ Fs' (top .deep [] (by decide) ((Rs_plain ac hpl hr).2 _ _) (fun _ m => (by cases m)) List.nodup_nil)
      | false =>
        rw [hpl] at q
        have hr' : Rs B.K B.FA Z' H .sh ac vs G' := hr
        have e0 := Rs_sh ac hr'
        subst e0
        exact q H Z' _ Fs' (top .top [] (by decide) hr' (fun _ m => (by cases m)) List.nodup_nil)
end
end BS

set_option Elab.async false
set_option linter.all false
set_option maxRecDepth 100000
set_option maxHeartbeats 2000000
namespace BS
open PySem PySem.Spec PyProof.Rows L2
section
variable {X : Cx} {B : Bk} {pos p pos' : Pos} {ee ef eg tgE eltE : Expr} {e f g elt cond : Ex} {T : Tg} {shr : Bool}
theorem ev_comp {Φ : Phi} {k : Ik} {es : List Ex} {E E' : En} {x : Val} (h : ev Φ (.comp shr elt T k es cond) E = some (x, E')) : ∃ xs E1 its acc E2, (match k with | .rng => evs Φ es E | .zip => evs Φ es E | _ => evit Φ (lcW T elt cond) es E) = some (xs, E1) ∧ items k (ds xs) = some its ∧ its.length ≤ line ∧ keepable (tgs T) E1 = true ∧
    compL (turnL Φ shr elt T cond) its E1 [] = some (acc, E2) ∧ x = (.lst acc, if shr && !plains acc then .top else .deep) ∧ E' = back (tgs T) E1 E2 := by
  simp only [ev, Option.bind_eq_bind, Option.bind_eq_some_iff, Prod.exists] at h
  obtain ⟨xs, E1, h1, its, h2, h3⟩ := h
  split at h3
  · rename_i hc
    simp only [Option.bind_eq_some_iff, Prod.exists] at h3
    obtain ⟨acc, E2, h4, h5⟩ := h3
    simp only [Option.some.injEq, Prod.mk.injEq] at h5
    obtain ⟨rfl, rfl⟩ := h5
    exact ⟨xs, E1, its, acc, E2, h1, h2, hc.1, hc.2, h4, rfl, rfl⟩
  · cases h3
/-- behind the whole -/
theorem comp_post {k : Ik} {es : List Ex} {Z H Z2 H2 : Hp} {E E2 E' : En} {Fs Fs2 : List (List Addr)} {σ : Sl} {x : Val} {Q : VK} (kk : ∀ v H' Z' Fd Fs', Pe B.K B.FA (wr (.comp shr elt T k es cond)) (pr (.comp shr elt T k es cond)) Z H E Fs σ x E' v Z' H' Fd Fs' → Q v H')
    (c : Chg (wrs es) Z H E Fs Z2 H2 E2 Fs2) {D0 : Addr} : ∀ H' Z' Fd Fs', Pe B.K B.FA (lcW T elt cond) none Z2 H2 E2 Fs2 σ x E' (.ref D0) Z' H' Fd Fs' → Q (.ref D0) H' := by
  intro H' Z' Fd Fs' q
  have sub : ∀ i, i ∈ wrs es ++ lcW T elt cond → i ∈ wr (.comp shr elt T k es cond) := fun i hi => by
    have e1 : wr (.comp shr elt T k es cond) = tgs T ++ (((if isPl elt then [root elt] else []) ++ wr elt) ++ (wrs es ++ wr cond)) := by
      cases T <;> simp [wr, tgs]
    rw [e1]
    simp only [wrx, List.mem_append] at hi ⊢
    rcases hi with z | z | z | z
    · exact .inr (.inr (.inl z))
    · exact .inl z
    · exact .inr (.inl z)
    · exact .inr (.inr (.inr z))
  refine kk _ H' Z' Fd Fs' ⟨q.st, (c.trans q.ch).mono sub, q.val, fun _ => ?_, fun _ _ z => (by simp [pr] at z)⟩
  obtain ⟨n1, n2, n3⟩ := q.ex rfl
  refine ⟨n1, n2, fun z hz => ?_⟩
  rcases n3 z hz with y | y
  · exact .inl (c.free y)
  · exact ((c.wc y).imp (fun w => w.mono sub) id).symm
abbrev iOf (K : PySem.W.Frag) (te : TE) : TI := fun σ H R => iList K te σ H R ∨ (iTup K te σ H R ∨ iStr te σ H R)
theorem lc_of {σ : Sl} {H : Hp} {Q : VK} (h : SE B (.comp shr elt T .of [e] cond) σ H Q) : tLc (iOf B.K (SE B e)) (tgT B.K T) (ST B cond) (SE B elt) (tgs T) σ H Q := by
  obtain ⟨Z, E, Fs, x', E', s, hx, kk⟩ := h
  obtain ⟨xs, E1', its, acc, E2, h1, h2, h3, h4, h5, rfl, rfl⟩ := ev_comp hx
  obtain ⟨x, E1, h0, hcase⟩ := evit1 h1
  have key : ∀ {R2 : V → Hp → Prop}, (∀ v H1 Z2 Fs2, Stt B.K B.FA Z2 H1 E1' σ Fs2 → Chg (wrs [e]) Z H E Fs Z2 H1 E1' Fs2 → ds xs = [x.1] →
      (∀ ys, x.1 = .lst ys → ∃ q vs, v = .ref q ∧ SrcL B.K B.FA (lcW T elt cond) Z2 H1 E1' Fs2 ys q vs) →
      (∀ ys, x.1 = .tup ys → ∃ q vs, v = .ref q ∧ Z2 q = some (.tup vs) ∧ Items B.K B.FA Z2 ys vs) →
      (∀ s, x.1 = .str s → v = .str s ∧ s.length ≤ line ∧ PyData.strOk s = true) → R2 v H1) → SE B e σ H R2 := fun {R2} k => by
    refine ⟨Z, E, Fs, x, E1, s, h0, fun v H1 Z1 Fd Fs1 p => ?_⟩
    obtain ⟨Z2, Fs2, s2, c2, d2, l2, t2, st2, _⟩ := p.src hcase
    exact k v H1 Z2 Fs2 s2 (c2.mono (wrs1 e)) d2 l2 t2 st2
  cases hd : x.1 with
  | lst ys =>
    refine .inl (key fun v H1 Z2 Fs2 s2 c2 d2 l2 t2 st2 => ?_)
    rw [hd] at d2
    rw [d2] at h2
    simp only [items, Option.some.injEq] at h2
    subst h2
    obtain ⟨a, vs, rfl, src⟩ := l2 ys hd
    have hq : H1 a = some (.lst vs) := src.stand (Chg.refl _ _ _ _ _) s2.sub
    refine ⟨a, rfl, ⟨vs, SqL.of hq⟩, fun D0 hD => ?_⟩
    exact lc_se (walk_list (K := B.K) (a := a) (xs := vs)) s2 h4 src.it.len h3 h5 (fun {H' Z' E' Fs'} c s' => SqL.of (src.stand c s')) (yld_at src.it) hD (comp_post kk c2)
  | tup ys =>
    refine .inr (.inl (key fun v H1 Z2 Fs2 s2 c2 d2 l2 t2 st2 => ?_))
    rw [hd] at d2
    rw [d2] at h2
    simp only [items, Option.some.injEq] at h2
    subst h2
    obtain ⟨a, vs, rfl, hq, it⟩ := t2 ys hd
    refine ⟨a, rfl, ⟨vs, SqT.of (tup_sub s2.sub hq)⟩, fun D0 hD => ?_⟩
    exact lc_se (walk_tup (K := B.K) (a := a) (xs := vs)) s2 h4 it.len h3 h5 (fun {H' Z' E' Fs'} c s' => SqT.of (tup_sub s' (c.le a _ hq))) (yld_at it) hD (comp_post kk c2)
  | str z =>
    refine .inr (.inr (key fun v H1 Z2 Fs2 s2 c2 d2 l2 t2 st2 => ?_))
    rw [hd] at d2
    rw [d2] at h2
    simp only [items, Option.some.injEq] at h2
    subst h2
    obtain ⟨rfl, hl, hok⟩ := st2 z hd
    refine ⟨z, rfl, fun D0 hD => ?_⟩
    refine lc_se (walk_str (z := z)) s2 h4 (by simp [chars]) h3 h5 (fun {H' Z' E' Fs'} c s' => trivial) ?_ hD (comp_post kk c2)
    intro i d x H H' Z hd le _ hy E σ Fs st
    obtain ⟨rfl, c, hc, rfl⟩ := hy
    have e0 : d = .str ⟨#[c]⟩ := by
      have : (chars z)[i]? = some (.str ⟨#[c]⟩) := by
        unfold chars
        rw [List.getElem?_map]
        have : z.cps.toList[i]? = some c := by simpa using hc
        rw [this]
        rfl
      rw [this] at hd
      exact (Option.some.inj hd).symm
    subst e0
    have hcm : c ∈ z.cps.toList := List.mem_of_getElem? (i := i) (by simpa using hc)
    exact ⟨Z, st, Chg.refl _ _ _ _ _, ⟨rfl, (by decide : 1 ≤ 16777216), strOk_one (strOk_iff.mp hok c hcm)⟩, rfl⟩
  | _ =>
    exfalso
    have d2 : ds xs = [x.1] := by
      rcases hcase with ⟨_, _, _, _, rfl, _⟩ | ⟨rfl, _⟩
      · rfl
      · have ec : (BS.esc e x E1).1.1 = x.1 := by unfold BS.esc; split <;> rfl
        simp [ds, ec]
    rw [d2, hd] at h2
    simp [items] at h2
/-- the tests -/
theorem pts_yes : PTs X [] (ST B (.bl true)) := ⟨fun pins s σ H Q I hw => by
  refine pts_nil.run pins s σ H Q I ?_
  obtain ⟨Z, E, Fs, k, w, E', st, he, kk⟩ := hw
  simp only [ev, Option.some.injEq, Prod.mk.injEq, D.bl.injEq] at he
  obtain ⟨⟨rfl, _⟩, rfl⟩ := he
  exact kk H Z Fs st (Chg.refl _ _ _ _ _)⟩
theorem pts_if {c : Expr} (h : PT X c (ST B cond)) : PTs X [c] (ST B cond) := pts_one h
variable {scope : Scope} {ifs : List Expr}
abbrev BlkPG (X : Cx) (scope : Scope) (tg : Expr) (g : TG) : Prop := ∀ (s : Shared) (H : Hp) (C : Addr) (cl : List (Str × Addr)) (fp : List Addr), PG (X.blk s H scope (compEnvC scope cl C X.env) fp) tg g
abbrev BlkPT (X : Cx) (scope : Scope) (ifs : List Expr) (t : TT) : Prop := ∀ (s : Shared) (H : Hp) (C : Addr) (cl : List (Str × Addr)) (fp : List Addr), PTs (X.blk s H scope (compEnvC scope cl C X.env) fp) ifs t
abbrev BlkPE (X : Cx) (scope : Scope) (e : Expr) (t : TE) : Prop := ∀ (s : Shared) (H : Hp) (C : Addr) (cl : List (Str × Addr)) (fp : List Addr), PE (X.blk s H scope (compEnvC scope cl C X.env) fp) e t
theorem sx_lc (own : List (Str × Nat)) (he : PE X ee (SE B e)) (ok : blkC X.N X.env.scope scope own = true) (hg : BlkPG X scope tgE (tgT B.K T)) (ht : BlkPT X scope ifs (ST B cond)) (hel : BlkPE X scope eltE (SE B elt)) (hN : X.N.Nodup) (ho : own.map (·.2) = tgs T := by rfl) (hc : X.calm = true := by rfl) (hK : X.K = B.K := by rfl) (hs : ∀ x, foldedSetIterable ee X.env x = pure x := by intro _; rfl) :
    PE X (.ListComp eltE [⟨tgE, ee, ifs, 0⟩] scope pos) (SE B (.comp shr elt T .of [e] cond)) := by
  refine (pe_lc hc hN ((pi_list he).or ((pi_tup he).or (pi_str he))) (blkOk_by ok) hg ht hel hs).imp fun σ H Q h => ?_
  rw [ho, hK]
  exact lc_of h
theorem ss_setLc (own : List (Str × Nat)) {i : Nat} {y : Str} {py : Pos} (he : PE X ee (SE B e)) (ok : blkC X.N X.env.scope scope own = true) (hg : BlkPG X scope tgE (tgT B.K T)) (ht : BlkPT X scope ifs (ST B cond)) (hel : BlkPE X scope eltE (SE B elt)) (hN : X.N.Nodup) (hy : X.N[i]? = some y) (hyl : X.env.scope.names.lookup y = some .local)
    (hsw : swapsWith (.ListComp eltE [⟨tgE, ee, ifs, 0⟩] scope pos) (some (.Name y py)) pos'.line X.env = pure true) (ho : own.map (·.2) = tgs T := by rfl) (hc : X.calm = true := by rfl) (hK : X.K = B.K := by rfl) (hs : ∀ x, foldedSetIterable ee X.env x = pure x := by intro _; rfl) :
    PS X (.Assign [.Name y py] (.ListComp eltE [⟨tgE, ee, ifs, 0⟩] scope pos) pos') (SS B (.set (.v i) (.comp shr elt T .of [e] cond))) := by
  refine (ps_setLc hc hN hy hyl hsw ((pi_list he).or ((pi_tup he).or (pi_str he))) (blkOk_by ok) hg ht hel hs).imp fun D σ H h => ?_
  rw [ho, hK]
  exact lc_of (set_ss h)
/-- over a range -/
theorem lc_rng {es : List Ex} {σ : Sl} {H : Hp} {Q : VK} (h : SE B (.comp shr elt T .rng es cond) σ H Q) : SXs B es σ H fun vs H1 => ∃ its, (∃ ns : List Int, items .rng (ns.map .int) = some its ∧ vs = ns.map .int) ∧
    ∀ (J : It) (n : Nat) (Y : Nat → Hp → V → Hp → Prop), Walk J n (fun _ => True) Y → n = its.length → (∀ Z1, Yld B.K B.FA its Z1 (fun _ => True) Y) → ∀ D0, H1 D0 = none →
      ∃ W : Nat → Nat → Hp → Prop, (∃ m, W 0 m (upd H1 D0 (.lst []))) ∧ ∀ i m H, W i m H → (J.stop i H ∧ Q (.ref D0) H) ∨ (J.go i H ∧ ∃ Nx : Hp → Prop, (∀ H', Nx H' → ∃ m', m' < m ∧ W (i + 1) m' H') ∧ ∀ x H', J.yld i H x H' → tgT B.K T x (wipe σ (tgs T)) H' fun σ2 H2 => wipe σ2 (tgs T) = wipe σ (tgs T) ∧ ST B cond σ2 H2 fun b H3 =>
      if b = true then SE B elt σ2 H3 fun y H4 => ∃ acc, H4 D0 = some (.lst acc) ∧ acc.length < sizeLine ∧ Nx (upd H4 D0 (.lst (acc ++ [y]))) else Nx H3) := by
  obtain ⟨Z, E, Fs, x', E', s, hx, kk⟩ := h
  obtain ⟨xs, E1', its, acc, E2, h1, h2, h3, h4, h5, rfl, rfl⟩ := ev_comp hx
  refine ⟨Z, E, Fs, xs, E1', s, h1, fun vs H1 Z1 Fds Fs1 p => ⟨its, ?_, fun J n Y w hn hY D0 hD => ?_⟩⟩
  · have hr := rng_items h2
    obtain ⟨ns, hns⟩ : ∃ ns : List Int, ds xs = ns.map BS.D.int := by
      rcases hr with ⟨n, e, _⟩ | ⟨lo, hi, e, _⟩ | ⟨lo, hi, c, e, _⟩
      · exact ⟨[n], e⟩
      · exact ⟨[lo, hi], e⟩
      · exact ⟨[lo, hi, c], e⟩
    exact ⟨ns, by rw [← hns]; exact h2, ints_val p.val hns⟩
  · exact lc_se w p.st h4 hn h3 h5 (fun _ _ => trivial) (hY Z1) hD (comp_post kk p.ch)
theorem rng_n1 {xs : List Val} {E E1 : En} {Φ : Phi} {es : List Ex} {ns : List Int} {its : List D} (h1 : evs Φ es E = some (xs, E1)) (hl : (ns.map V.int).length = xs.length) (hi : items .rng (ns.map .int) = some its) :
    (∃ n, es.length = 1 ∧ ns = [n] ∧ inB n = true ∧ its = rng 0 1 0 n.toNat) ∨ (∃ lo hi, es.length = 2 ∧ ns = [lo, hi] ∧ inB lo = true ∧ inB hi = true ∧ its = rng lo 1 0 (hi - lo).toNat) ∨
    (∃ lo hi c, es.length = 3 ∧ ns = [lo, hi, c] ∧ inB lo = true ∧ inB hi = true ∧ 0 < c ∧ c < 1073741824 ∧ its = rng lo c 0 ((hi - lo + c - 1) / c).toNat) := by
  rw [evs_len h1, List.length_map] at hl
  have inj : ∀ (l m : List Int), l.map BS.D.int = m.map BS.D.int → l = m := fun l => by
    induction l with
    | nil => intro m h; cases m with
      | nil => rfl
      | cons _ _ => simp at h
    | cons a l ih => intro m h; cases m with
      | nil => simp at h
      | cons b m => simp only [List.map_cons, List.cons.injEq, BS.D.int.injEq] at h; rw [h.1, ih m h.2]
  rcases rng_items hi with ⟨n, e, x⟩ | ⟨lo, hi', e, x⟩ | ⟨lo, hi', c, e, x⟩
  · have := inj ns [n] e
    subst this
    exact .inl ⟨n, hl.symm, rfl, x⟩
  · have := inj ns [lo, hi'] e
    subst this
    exact .inr (.inl ⟨lo, hi', hl.symm, rfl, x⟩)
  · have := inj ns [lo, hi', c] e
    subst this
    exact .inr (.inr ⟨lo, hi', c, hl.symm, rfl, x⟩)
theorem lc_r1 {σ : Sl} {H : Hp} {Q : VK} (h : SE B (.comp shr elt T .rng [e] cond) σ H Q) : tLc (iRng1 (SXs B [e])) (tgT B.K T) (ST B cond) (SE B elt) (tgs T) σ H Q := by
  obtain ⟨Z, E, Fs, xs, E1, s, h1, k⟩ := lc_rng h
  refine ⟨Z, E, Fs, xs, E1, s, h1, fun vs H1 Z1 Fds Fs1 p => ?_⟩
  obtain ⟨its, ⟨ns, hi, rfl⟩, kk⟩ := k vs H1 Z1 Fds Fs1 p
  rcases rng_n1 h1 p.val.length hi with ⟨n, _, rfl, hb, rfl⟩ | ⟨_, _, z, _⟩ | ⟨_, _, _, z, _⟩
  · obtain ⟨b1, b2⟩ := inB_ok hb
    exact ⟨n, rfl, b1, b2, fun D0 hD => kk _ _ _ walk_range (rng_len _ _ _ _).symm (fun Z1 => rng1 _ _) D0 hD⟩
  · cases z
  · cases z
theorem lc_r2 {σ : Sl} {H : Hp} {Q : VK} (h : SE B (.comp shr elt T .rng [e, f] cond) σ H Q) : tLc (iRng2 (SXs B [e, f])) (tgT B.K T) (ST B cond) (SE B elt) (tgs T) σ H Q := by
  obtain ⟨Z, E, Fs, xs, E1, s, h1, k⟩ := lc_rng h
  refine ⟨Z, E, Fs, xs, E1, s, h1, fun vs H1 Z1 Fds Fs1 p => ?_⟩
  obtain ⟨its, ⟨ns, hi, rfl⟩, kk⟩ := k vs H1 Z1 Fds Fs1 p
  rcases rng_n1 h1 p.val.length hi with ⟨n, z, _⟩ | ⟨lo, hi', _, rfl, b1, b2, rfl⟩ | ⟨_, _, _, z, _⟩
  · cases z
  · obtain ⟨x1, x2⟩ := inB_ok b1
    obtain ⟨x3, x4⟩ := inB_ok b2
    exact ⟨lo, hi', rfl, ⟨x1, x2, x3, x4⟩, fun D0 hD => kk _ _ _ walk_range (rng_len _ _ _ _).symm (fun Z1 => rng1 _ _) D0 hD⟩
  · cases z
theorem lc_r3 {σ : Sl} {H : Hp} {Q : VK} (h : SE B (.comp shr elt T .rng [e, f, g] cond) σ H Q) : tLc (iRng3 (SXs B [e, f, g])) (tgT B.K T) (ST B cond) (SE B elt) (tgs T) σ H Q := by
  obtain ⟨Z, E, Fs, xs, E1, s, h1, k⟩ := lc_rng h
  refine ⟨Z, E, Fs, xs, E1, s, h1, fun vs H1 Z1 Fds Fs1 p => ?_⟩
  obtain ⟨its, ⟨ns, hi, rfl⟩, kk⟩ := k vs H1 Z1 Fds Fs1 p
  rcases rng_n1 h1 p.val.length hi with ⟨n, z, _⟩ | ⟨_, _, z, _⟩ | ⟨lo, hi', c, _, rfl, b1, b2, b3, b4, rfl⟩
  · cases z
  · cases z
  · exact ⟨lo, hi', c, _, rfl, rgc_ok b1 b2 b3 b4, fun D0 hD => kk _ _ _ walk_rangeC (rng_len _ _ _ _).symm (fun Z1 => yld_int fun i => rfl) D0 hD⟩
/-- the walked thing of a comprehension, as a rule: its PI and what the reading gives -/
structure Src (X : Cx) (B : Bk) (tgE iter : Expr) (T : Tg) (k : Ik) (es : List Ex) (wi : TI) : Prop where
  pi : PI X tgE iter wi
  lc : ∀ {shr : Bool} {elt cond : Ex} {σ : Sl} {H : Hp} {Q : VK}, SE B (.comp shr elt T k es cond) σ H Q → tLc wi (tgT B.K T) (ST B cond) (SE B elt) (tgs T) σ H Q
theorem src_of (he : PE X ee (SE B e)) (hK : X.K = B.K := by rfl) : Src X B tgE ee T .of [e] (iOf B.K (SE B e)) := ⟨hK ▸ (pi_list he).or ((pi_tup he).or (pi_str he)), lc_of⟩
theorem src_r1 (hg' : Gl X "range") (hm : X.mg "range" = none) (ha : PA X [ee] (SXs B [e])) (he : starEach [ee] X.env = [(false, eval ee X.env)] := by rfl) : Src X B tgE (.Call (.Name "range" p) [ee] [] pos') T .rng [e] (iRng1 (SXs B [e])) := ⟨pi_range1 hg' hm ha he, lc_r1⟩
theorem src_r2 (hg' : Gl X "range") (hm : X.mg "range" = none) (ha : PA X [ee, ef] (SXs B [e, f])) (he : starEach [ee, ef] X.env = [(false, eval ee X.env), (false, eval ef X.env)] := by rfl) (he2 : starEach [ef] X.env = [(false, eval ef X.env)] := by rfl) :
    Src X B tgE (.Call (.Name "range" p) [ee, ef] [] pos') T .rng [e, f] (iRng2 (SXs B [e, f])) := ⟨pi_range2 hg' hm ha he he2, lc_r2⟩
theorem src_r3 (hg' : Gl X "range") (hm : X.mg "range" = none) (ha : PA X [ee, ef, eg] (SXs B [e, f, g])) (he : starEach [ee, ef, eg] X.env = (false, eval ee X.env) :: starEach [ef, eg] X.env := by rfl) (hpl : (backTo pos' (starEach [ef, eg] X.env)).any (·.1) = false := by rfl) :
    Src X B tgE (.Call (.Name "range" p) [ee, ef, eg] [] pos') T .rng [e, f, g] (iRng3 (SXs B [e, f, g])) := ⟨pi_range3 hg' hm ha he hpl, lc_r3⟩
theorem sx_comp {k : Ik} {es : List Ex} {wi : TI} (own : List (Str × Nat)) (hsrc : Src X B tgE ee T k es wi) (ok : blkC X.N X.env.scope scope own = true) (hg : BlkPG X scope tgE (tgT B.K T)) (ht : BlkPT X scope ifs (ST B cond)) (hel : BlkPE X scope eltE (SE B elt)) (hN : X.N.Nodup) (ho : own.map (·.2) = tgs T := by rfl) (hc : X.calm = true := by rfl) (hs : ∀ x, foldedSetIterable ee X.env x = pure x := by intro _; rfl) :
    PE X (.ListComp eltE [⟨tgE, ee, ifs, 0⟩] scope pos) (SE B (.comp shr elt T k es cond)) := by
  refine (pe_lc hc hN hsrc.pi (blkOk_by ok) hg ht hel hs).imp fun σ H Q h => ?_
  rw [ho]
  exact hsrc.lc h
theorem ss_setComp {k : Ik} {es : List Ex} {wi : TI} (own : List (Str × Nat)) {i : Nat} {y : Str} {py : Pos} (hsrc : Src X B tgE ee T k es wi) (ok : blkC X.N X.env.scope scope own = true) (hg : BlkPG X scope tgE (tgT B.K T)) (ht : BlkPT X scope ifs (ST B cond)) (hel : BlkPE X scope eltE (SE B elt)) (hN : X.N.Nodup) (hy : X.N[i]? = some y) (hyl : X.env.scope.names.lookup y = some .local)
    (hsw : swapsWith (.ListComp eltE [⟨tgE, ee, ifs, 0⟩] scope pos) (some (.Name y py)) pos'.line X.env = pure true) (ho : own.map (·.2) = tgs T := by rfl) (hc : X.calm = true := by rfl) (hs : ∀ x, foldedSetIterable ee X.env x = pure x := by intro _; rfl) :
    PS X (.Assign [.Name y py] (.ListComp eltE [⟨tgE, ee, ifs, 0⟩] scope pos) pos') (SS B (.set (.v i) (.comp shr elt T k es cond))) := by
  refine (ps_setLc hc hN hy hyl hsw hsrc.pi (blkOk_by ok) hg ht hel hs).imp fun D σ H h => ?_
  rw [ho]
  exact hsrc.lc (set_ss h)
end
end BS

set_option Elab.async false
set_option linter.all false
set_option maxRecDepth 100000
set_option maxHeartbeats 2000000
namespace BS
open PySem PySem.Spec PyProof.Rows L2
/-! ### changes of a slot's list, dict -/
section
variable {K : PySem.W.Frag} {FA : Nat → Addr → Prop} {Z Z' H H' : Hp}
/-- the slot's cell, and its entry with a new content -/
theorem Pes.change {w : List Nat} {Z0 H0 : Hp} {E0 E : En} {Fs0 Fs : List (List Addr)} {σ : Sl} {xs : List Val} {us : List V} {Fds : List (List Addr)} {i : Nat} {q : Addr} {d' : D} {w1 w2 : Ow} {G : List Addr} {o : HO} {own : Bool}
    (p : Pes K FA w Z0 H0 E0 Fs0 σ xs E us Z H Fds Fs) (hσ : σ[i]? = some (some (.ref q))) (hF : Fs.getD i [] = q :: G) (hH : H q ≠ none) (hw2 : w2 = if own = true then w1 else .top) (hown : own = allDeep xs)
    (mk : (w1 = .deep ∧ own = true → ∃ G' L, (G' ++ L).Perm (G ++ Fds.flatten) ∧ R K FA Z (upd H q o) .deep d' (.ref q) (q :: G')) ∧ (w1 ≠ .deep ∨ own = false → R K FA (zadd Z H (G ++ Fds.flatten)) (upd H q o) .top d' (.ref q) [q]))
    (hw1 : w1 ≠ .sh) :
    ∃ Z' Fs', Stt K FA Z' (upd H q o) (E.set i (some (d', w2))) σ Fs' ∧ Chg (i :: w) Z0 H0 E0 Fs0 Z' (upd H q o) (E.set i (some (d', w2))) Fs' := by
  have ndAll := p.nd
  have inF : ∀ a, a ∈ q :: G → a ∈ Fs.flatten := fun a ha => mem_flat (i := i) (by rw [hF]; exact ha)
  have nself : (q :: G).Nodup := by
    have := self_perm (Fs := Fs) (i := i)
    rw [hF] at this
    exact (List.nodup_append.mp (this.nodup_iff.mp p.st.nd)).1
  have out : ∀ a ∈ Fds.flatten, a ∉ Fs.flatten := fun a ha hb => (List.nodup_append.mp ndAll).2.2 a ha a hb rfl
  have othr : ∀ a ∈ (Fs.set i []).flatten, a ∉ q :: G := fun a ha hb => by
    have := self_perm (Fs := Fs) (i := i)
    rw [hF] at this
    exact (List.nodup_append.mp (this.nodup_iff.mp p.st.nd)).2.2 a hb a ha rfl
  have hil : i < Fs.length := by
    rw [p.st.re.length.2]
    exact (List.getElem?_eq_some_iff.mp hσ).1
  -- the other slots
  have rest : ∀ {Zz : Hp} {x : Option Val} {F : List Addr}, Le Z Zz → RO K FA Zz (upd H q o) x (some (.ref q)) F → RE K FA Zz (upd H q o) (E.set i x) σ (Fs.set i F) := fun {Zz x F} le ro => by
    have r0 : RE K FA Z H (E.set i none) σ (Fs.set i []) := p.st.re.turn hσ (show RO K FA Z H none (some (.ref q)) [] from rfl)
    have r1 := RE.keep (H' := upd H q o) le (fun a ha => upd_ne fun z => othr a ha (by rw [z]; exact List.mem_cons_self)) r0
    have r2 := r1.turn hσ ro
    rwa [List.set_set, List.set_set] at r2
  have chg : ∀ {Zz : Hp} {x : Option Val} {F : List Addr}, Le Z Zz → (∀ a u, Zz a = some u → Z a = some u ∨ a ∈ Fs.flatten ∨ a ∈ Fds.flatten) → (∀ a ∈ F, a ∈ q :: G ∨ a ∈ Fds.flatten) → Chg (i :: w) Z0 H0 E0 Fs0 Zz (upd H q o) (E.set i x) (Fs.set i F) := fun {Zz x F} le zn hf => by
    refine ⟨p.ch.le.trans le, fun a u e => ?_, fun j a ha => ?_, fun a u h n => ?_, fun a h => ?_, fun j hj => ?_⟩
    · rcases zn a u e with z | z | z
      · exact p.ch.zn a u z
      · rcases p.ch.flat z with y | y
        · exact .inr (.inl y)
        · exact .inr (.inr y)
      · rcases p.fd a z with y | y
        · exact .inr (.inr y)
        · exact .inr (.inl y.flat)
    · rcases getD_set ha with ⟨rfl, z⟩ | ⟨_, z⟩
      · rcases hf a z with y | y
        · exact (p.ch.fr i a (by rw [hF]; exact y)).imp id (Or.imp id fun y => y.mono fun k hk => List.mem_cons_of_mem _ hk)
        · exact .inr ((p.fd a y).imp id fun y => y.mono fun k hk => List.mem_cons_of_mem _ hk)
      · exact (p.ch.fr j a z).imp id (Or.imp id fun y => y.mono fun k hk => List.mem_cons_of_mem _ hk)
    · have ne : a ≠ q := fun z => by
        subst z
        rcases p.ch.fr i a (by rw [hF]; exact List.mem_cons_self) with y | y | y
        · exact n ⟨i, List.mem_cons_self, y⟩
        · rw [y] at h; cases h
        · exact n (y.mono fun k hk => List.mem_cons_of_mem _ hk)
      rw [upd_ne ne]
      exact p.ch.frame a u h fun z => n (z.mono fun k hk => List.mem_cons_of_mem _ hk)
    · by_cases e : a = q
      · rw [e, upd_same]; exact fun z => by cases z
      · rw [upd_ne e]; exact p.ch.there a h
    · have ne : i ≠ j := fun z => hj (by rw [z]; exact List.mem_cons_self)
      rw [List.getElem?_set_ne ne, getD_set_ne ne]
      exact p.ch.same j fun z => hj (List.mem_cons_of_mem _ z)
  have subq : ∀ {Zz : Hp}, Sub Zz H → Zz q = none → Sub Zz (upd H q o) := fun {Zz} s hz a u e => by
    have ne : a ≠ q := fun z => by rw [z, hz] at e; cases e
    rw [upd_ne ne]
    exact s a u e
  have zq : Z q = none := p.st.zf q (inF q List.mem_cons_self)
  by_cases hd : w1 = .deep ∧ own = true
  · obtain ⟨G', L, hp, hr⟩ := mk.1 hd
    have e2 : w2 = .deep := by rw [hw2, if_pos hd.2, hd.1]
    rw [e2]
    have subG : ∀ a ∈ G', a ∈ G ∨ a ∈ Fds.flatten := fun a ha => by
      have := hp.mem_iff.mp (List.mem_append_left L ha)
      exact List.mem_append.mp this
    have nG : ((q :: G') ++ (Fs.set i []).flatten).Nodup := by
      have big : ((q :: (G ++ Fds.flatten)) ++ (Fs.set i []).flatten).Nodup := by
        have e1 : (Fds.flatten ++ Fs.flatten).Perm ((q :: (G ++ Fds.flatten)) ++ (Fs.set i []).flatten) := by
          have s := self_perm (Fs := Fs) (i := i)
          rw [hF] at s
          refine (List.Perm.append_left _ s).trans ?_
          rw [← List.append_assoc]
          refine List.Perm.append_right _ ?_
          exact List.perm_append_comm
        exact e1.nodup_iff.mp ndAll
      have big2 : ((q :: (G' ++ L)) ++ (Fs.set i []).flatten).Nodup := by
        have : ((q :: (G' ++ L)) ++ (Fs.set i []).flatten).Perm ((q :: (G ++ Fds.flatten)) ++ (Fs.set i []).flatten) := List.Perm.append_right _ (List.Perm.cons q hp)
        exact this.nodup_iff.mpr big
      refine big2.sublist (List.Sublist.append_right (List.Sublist.cons_cons q (List.sublist_append_left _ _)) _)
    refine ⟨Z, Fs.set i (q :: G'), ⟨subq p.st.sub zq, rest (Le.refl _) hr, ?_, fun a ha => ?_⟩, chg (Le.refl _) (fun a u h => .inl h) fun a ha => ?_⟩
    · exact (set_perm hil).nodup_iff.mpr nG
    · rcases List.mem_append.mp ((set_perm hil).mem_iff.mp ha) with m | m
      · rcases List.mem_cons.mp m with rfl | m
        · exact zq
        · rcases subG a m with y | y
          · exact p.st.zf a (inF a (List.mem_cons_of_mem _ y))
          · exact p.zf a y
      · exact p.st.zf a (mem_unset m)
    · rcases List.mem_cons.mp ha with rfl | m
      · exact .inl List.mem_cons_self
      · exact (subG a m).imp (List.mem_cons_of_mem _) id
  · have hr := mk.2 (by
      by_cases e : w1 = .deep
      · exact .inr (by cases own; rfl; exact absurd ⟨e, rfl⟩ hd)
      · exact .inl e)
    have e2 : w2 = .top := by
      rw [hw2]
      cases hown2 : own with
      | false => rfl
      | true =>
        simp only [if_true]
        cases w1 with
        | sh => exact absurd rfl hw1
        | top => rfl
        | deep => exact absurd ⟨rfl, hown2⟩ hd
    rw [e2]
    have zS : ∀ a ∈ G ++ Fds.flatten, Z a = none := fun a ha => by
      rcases List.mem_append.mp ha with m | m
      · exact p.st.zf a (inF a (List.mem_cons_of_mem _ m))
      · exact p.zf a m
    have nq : q ∉ G ++ Fds.flatten := fun m => by
      rcases List.mem_append.mp m with m | m
      · exact (List.nodup_cons.mp nself).1 m
      · exact out q m (inF q List.mem_cons_self)
    have zq2 : zadd Z H (G ++ Fds.flatten) q = none := by rw [zadd_out nq]; exact zq
    refine ⟨zadd Z H (G ++ Fds.flatten), Fs.set i [q], ⟨subq (zadd_sub p.st.sub) zq2, rest (zadd_le zS) hr, ?_, fun a ha => ?_⟩, chg (zadd_le zS) (fun a u e => ?_) fun a ha => ?_⟩
    · refine (set_perm hil).nodup_iff.mpr (List.nodup_cons.mpr ⟨fun m => othr q m List.mem_cons_self, ?_⟩)
      exact p.st.nd.sublist unset_sub
    · rcases List.mem_append.mp ((set_perm hil).mem_iff.mp ha) with m | m
      · have e : a = q := by simpa using m
        rw [e]
        exact zq2
      · rw [zadd_out fun z => ?_]
        · exact p.st.zf a (mem_unset m)
        · rcases List.mem_append.mp z with y | y
          · exact othr a m (List.mem_cons_of_mem _ y)
          · exact out a y (mem_unset m)
    · by_cases m : a ∈ G ++ Fds.flatten
      · rcases List.mem_append.mp m with y | y
        · exact .inr (.inl (inF a (List.mem_cons_of_mem _ y)))
        · exact .inr (.inr y)
      · rw [zadd_out m] at e
        exact .inl e
    · have e : a = q := by simpa using ha
      rw [e]
      exact .inl List.mem_cons_self
/-- a list's new content, by the items' own relation -/
theorem list_mk {q : Addr} {ys ys' : List D} {vs vs' : List V} {G : List Addr} {w1 : Ow} {xs : List Val} {us : List V} {Fds : List (List Addr)} {own : Bool} (hw1 : w1 ≠ .sh) (hr : Rs K FA Z H (kid w1) ys vs G) (hx : RL K FA Z H xs us Fds) (hown : own = allDeep xs)
    (hq : q ∉ G ∧ q ∉ Fds.flatten) (zG : ∀ a ∈ G ++ Fds.flatten, Z a = none)
    (f : ∀ {Zz Hz : Hp} {w : Ow} {A C : List Addr}, Rs K FA Zz Hz w ys vs A → Rs K FA Zz Hz w (ds xs) us C → ∃ G' L, Rs K FA Zz Hz w ys' vs' G' ∧ (G' ++ L).Perm (A ++ C)) :
    (w1 = .deep ∧ own = true → ∃ G' L, (G' ++ L).Perm (G ++ Fds.flatten) ∧ R K FA Z (upd H q (.lst vs')) .deep (.lst ys') (.ref q) (q :: G')) ∧ (w1 ≠ .deep ∨ own = false → R K FA (zadd Z H (G ++ Fds.flatten)) (upd H q (.lst vs')) .top (.lst ys') (.ref q) [q]) := by
  refine ⟨fun hd => ?_, fun hd => ?_⟩
  · have hr' : Rs K FA Z H .deep ys vs G := by rw [hd.1] at hr; exact hr
    obtain ⟨G', L, r, hp⟩ := f hr' (RL_deep hx (by rw [← hown]; exact hd.2))
    have ne : ∀ a ∈ G', a ≠ q := fun a ha z => by
      subst z
      rcases List.mem_append.mp (hp.mem_iff.mp (List.mem_append_left L ha)) with m | m
      · exact hq.1 m
      · exact hq.2 m
    exact ⟨G', L, hp, q, vs', G', rfl, upd_same, Rs_keep (Le.refl _) _ (fun a ha => upd_ne (ne a ha)) r, rfl⟩
  · have le := zadd_le (H := H) zG
    have r1 : Rs K FA (zadd Z H (G ++ Fds.flatten)) H .sh ys vs [] := Rs_share le ys (fun a ha => zadd_in (List.mem_append_left _ ha)) hr
    have r2 : Rs K FA (zadd Z H (G ++ Fds.flatten)) H .sh (ds xs) us [] := RL_share le hx fun a ha => zadd_in (List.mem_append_right _ ha)
    obtain ⟨G', L, r, hp⟩ := f r1 r2
    have e0 := Rs_sh _ r
    subst e0
    exact ⟨q, vs', [], rfl, upd_same, Rs_keep (H := H) (Le.refl _) _ (fun _ m => (by cases m)) r, rfl⟩
theorem Rs_set : ∀ {ys : List D} {vs : List V} {w : Ow} {A C : List Addr} {j : Nat} {d : D} {v : V}, j < ys.length → Rs K FA Z H w ys vs A → Rs K FA Z H w [d] [v] C → ∃ G' L, Rs K FA Z H w (ys.set j d) (vs.set j v) G' ∧ (G' ++ L).Perm (A ++ C)
  | y :: ys, _, w, _, C, 0, d, v, _, ⟨v0, us, A, A', e0, h1, h2, e⟩, hx => by
    obtain ⟨v1, us1, C1, C2, f0, g1, g2, f⟩ := hx
    simp only [List.cons.injEq] at f0
    obtain ⟨rfl, rfl⟩ := f0
    obtain ⟨_, rfl⟩ := g2
    subst e0
    subst e
    subst f
    refine ⟨C1 ++ A', A, ⟨v, us, C1, A', rfl, g1, h2, rfl⟩, ?_⟩
    rw [List.append_nil]
    refine List.perm_append_comm.trans ?_
    rw [List.append_assoc]
    exact List.Perm.append_left A List.perm_append_comm
  | y :: ys, _, w, _, C, j + 1, d, v, hj, ⟨v0, us, A, A', e0, h1, h2, e⟩, hx => by
    subst e0
    subst e
    obtain ⟨G', L, r, hp⟩ := Rs_set (j := j) (by simpa using hj) h2 hx
    refine ⟨A ++ G', L, ⟨v0, us.set j v, A, G', rfl, h1, r, rfl⟩, ?_⟩
    rw [List.append_assoc, List.append_assoc]
    exact List.Perm.append_left A hp
  | [], _, _, _, _, _, _, _, hj, _, _ => by simp at hj
theorem RK_map : ∀ {kvs : List (D × D)} {kv : List (Key × V)} {w : Ow} {A C : List Addr} {k d : D} {key : Key} {v : V}, RK K FA Z H w kvs kv A → R K FA Z H w d v C → keyD k = some key → (kv.map (·.1)).Nodup → dhas kvs k = true →
    ∃ G' L, RK K FA Z H w (kvs.map fun p => if keq p.1 k then (p.1, d) else p) (kv.map fun p => if p.1 = key then (p.1, v) else p) G' ∧ (G' ++ L).Perm (A ++ C)
  | [], _, _, _, _, _, _, _, _, _, _, _, _, hh => by simp [dhas] at hh
  | (a, b) :: kvs, _, w, _, C, k, d, key, v, ⟨k0, v0, us, A, A', e0, ek, h1, h2, e⟩, hx, hk, hn, hh => by
    subst e0
    subst e
    rw [List.map_cons, List.nodup_cons] at hn
    have ekk := keq_key ek hk
    by_cases q : k0 = key
    · -- here, and nowhere else
      have no : ∀ {l : List (D × D)} {m : List (Key × V)} {F : List Addr}, RK K FA Z H w l m F → key ∉ m.map (·.1) → (l.map fun p => if keq p.1 k then (p.1, d) else p) = l ∧ (m.map fun p => if p.1 = key then (p.1, v) else p) = m := fun {l} => by
        induction l with
        | nil => intro m F h _; obtain ⟨rfl, _⟩ := h; exact ⟨rfl, rfl⟩
        | cons c l ih =>
          intro m F h hn'
          obtain ⟨c1, c2⟩ := c
          obtain ⟨k1, v1, us1, B1, B2, f0, fk, g1, g2, f⟩ := h
          subst f0
          rw [List.map_cons, List.mem_cons, not_or] at hn'
          obtain ⟨i1, i2⟩ := ih g2 hn'.2
          have ne : ¬ k1 = key := fun z => hn'.1 z.symm
          simp only [List.map_cons, keq_key fk hk, decide_eq_true_eq, if_neg ne, i1, i2, and_self]
      obtain ⟨i1, i2⟩ := no h2 (by rw [← q]; exact hn.1)
      refine ⟨C ++ A', A, ?_, ?_⟩
      · simp only [List.map_cons, ekk, q, decide_true, if_true, i1, i2]
        exact ⟨key, v, us, C, A', rfl, by rw [← q]; exact ek, hx, h2, rfl⟩
      · refine List.perm_append_comm.trans ?_
        rw [List.append_assoc]
        exact List.Perm.append_left A List.perm_append_comm
    · have hh' : dhas kvs k = true := by
        have : dhas ((a, b) :: kvs) k = (keq a k || dhas kvs k) := rfl
        rw [this, ekk, decide_eq_false q] at hh
        simpa using hh
      obtain ⟨G', L, r, hp⟩ := RK_map h2 hx hk hn.2 hh'
      refine ⟨A ++ G', L, ?_, ?_⟩
      · simp only [List.map_cons, ekk, decide_eq_false q, Bool.false_eq_true, if_false, if_neg q]
        exact ⟨k0, v0, _, A, G', rfl, ek, h1, r, rfl⟩
      · rw [List.append_assoc, List.append_assoc]
        exact List.Perm.append_left A hp
theorem RK_has : ∀ {kvs : List (D × D)} {kv : List (Key × V)} {w : Ow} {A : List Addr} {k : D} {key : Key}, RK K FA Z H w kvs kv A → keyD k = some key → (kv.any fun p => decide (p.1 = key)) = dhas kvs k
  | [], _, _, _, _, _, h, _ => by rw [h.1]; rfl
  | (a, b) :: kvs, _, w, _, k, key, ⟨k0, v0, us, A, A', e0, ek, h1, h2, e⟩, hk => by
    subst e0
    have : dhas ((a, b) :: kvs) k = (keq a k || dhas kvs k) := rfl
    rw [this, List.any_cons, RK_has h2 hk, keq_key ek hk]
theorem RK_app : ∀ {kvs : List (D × D)} {kv : List (Key × V)} {w : Ow} {A C : List Addr} {k d : D} {key : Key} {v : V}, RK K FA Z H w kvs kv A → R K FA Z H w d v C → keyD k = some key → RK K FA Z H w (kvs ++ [(k, d)]) (kv ++ [(key, v)]) (A ++ C)
  | [], _, _, _, C, k, d, key, v, h, hx, hk => by
    obtain ⟨rfl, rfl⟩ := h
    exact ⟨key, v, [], C, [], rfl, hk, hx, ⟨rfl, rfl⟩, by simp⟩
  | (a, b) :: kvs, _, w, _, C, k, d, key, v, ⟨k0, v0, us, A, A', e0, ek, h1, h2, e⟩, hx, hk => by
    subst e0
    subst e
    exact ⟨k0, v0, _, A, A' ++ C, rfl, ek, h1, RK_app h2 hx hk, by rw [List.append_assoc]⟩
theorem RK_put {kvs : List (D × D)} {kv : List (Key × V)} {w : Ow} {A C : List Addr} {k d : D} {key : Key} {v : V} (h : RK K FA Z H w kvs kv A) (hx : R K FA Z H w d v C) (hk : keyD k = some key) (hn : (kv.map (·.1)).Nodup) :
    ∃ G' L, RK K FA Z H w (dput kvs k d) (putK kv key v) G' ∧ (G' ++ L).Perm (A ++ C) := by
  unfold dput putK
  rw [RK_has h hk]
  cases hh : dhas kvs k with
  | true =>
    simp only [if_true]
    exact RK_map h hx hk hn hh
  | false =>
    simp only [Bool.false_eq_true, if_false]
    exact ⟨A ++ C, [], RK_app h hx hk, by simp⟩
theorem RK_nd {kv : List (Key × V)} {key : Key} {v : V} (hn : (kv.map (·.1)).Nodup) : ((putK kv key v).map (·.1)).Nodup := by
  unfold putK
  split
  · rw [List.map_map]
    have : ((fun p : Key × V => p.1) ∘ fun p => if p.1 = key then (p.1, v) else p) = fun p => p.1 := by
      funext p
      simp only [Function.comp]
      split <;> rfl
    rw [this]
    exact hn
  · rename_i hh
    rw [List.map_append, List.map_cons, List.map_nil]
    refine List.nodup_append.mpr ⟨hn, List.nodup_cons.mpr ⟨fun m => (by cases m), List.nodup_nil⟩, fun a ha b hb => ?_⟩
    have e : b = key := by simpa using hb
    rintro rfl
    subst e
    obtain ⟨p, hp, e⟩ := List.mem_map.mp ha
    exact hh (List.any_eq_true.mpr ⟨p, hp, decide_eq_true e⟩)
theorem dictK_mk {q : Addr} {kvs : List (D × D)} {kv : List (Key × V)} {k : D} {key : Key} {G : List Addr} {w1 : Ow} {x : Val} {v : V} {Fd : List Addr} {own : Bool} (hr : RK K FA Z H (kid w1) kvs kv G) (hx : R K FA Z H x.2 x.1 v Fd) (hown : own = allDeep [x]) (hk : keyD k = some key) (hn : (kv.map (·.1)).Nodup)
    (hq : q ∉ G ∧ q ∉ [Fd].flatten) (zG : ∀ a ∈ G ++ [Fd].flatten, Z a = none) :
    (w1 = .deep ∧ own = true → ∃ G' L, (G' ++ L).Perm (G ++ [Fd].flatten) ∧ R K FA Z (upd H q (.dK (putK kv key v))) .deep (.dic false (dput kvs k x.1)) (.ref q) (q :: G')) ∧ (w1 ≠ .deep ∨ own = false → R K FA (zadd Z H (G ++ [Fd].flatten)) (upd H q (.dK (putK kv key v))) .top (.dic false (dput kvs k x.1)) (.ref q) [q]) := by
  have ef : [Fd].flatten = Fd := by simp
  rw [ef] at hq zG ⊢
  refine ⟨fun hd => ?_, fun hd => ?_⟩
  · have hr' : RK K FA Z H .deep kvs kv G := by rw [hd.1] at hr; exact hr
    have hxd : R K FA Z H .deep x.1 v Fd := by
      have := hd.2
      rw [hown] at this
      simp only [allDeep, Bool.and_true, Bool.or_eq_true, decide_eq_true_eq] at this
      rcases this with z | z
      · obtain ⟨e0, kr⟩ := R_plain _ z hx
        rw [e0]
        exact kr _ _
      · rw [z] at hx
        exact hx
    obtain ⟨G', L, r, hp⟩ := RK_put hr' hxd hk hn
    have ne : ∀ a ∈ G', a ≠ q := fun a ha z => by
      subst z
      rcases List.mem_append.mp (hp.mem_iff.mp (List.mem_append_left L ha)) with m | m
      · exact hq.1 m
      · exact hq.2 m
    exact ⟨G', L, hp, q, G', rfl, .inl ⟨rfl, _, upd_same, RK_nd hn, RK_keep (Le.refl _) _ (fun a ha => upd_ne (ne a ha)) r⟩, rfl⟩
  · have le := zadd_le (H := H) zG
    have r1 : RK K FA (zadd Z H (G ++ Fd)) H .sh kvs kv [] := RK_share le kvs (fun a ha => zadd_in (List.mem_append_left _ ha)) hr
    have r2 : R K FA (zadd Z H (G ++ Fd)) H .sh x.1 v [] := R_share le _ (fun a ha => zadd_in (List.mem_append_right _ ha)) hx
    obtain ⟨G', L, r, hp⟩ := RK_put r1 r2 hk hn
    have e0 := RK_sh _ r
    subst e0
    exact ⟨q, [], rfl, .inl ⟨rfl, _, upd_same, RK_nd hn, RK_keep (H := H) (Le.refl _) _ (fun _ m => (by cases m)) r⟩, rfl⟩
theorem RT_map : ∀ {kvs : List (D × D)} {kv : List (List Key × V)} {w : Ow} {A C : List Addr} {k d : D} {key : List Key} {v : V}, RT K FA Z H w kvs kv A → R K FA Z H w d v C → keyT k = some key → (kv.map (·.1)).Nodup → dhas kvs k = true →
    ∃ G' L, RT K FA Z H w (kvs.map fun p => if keq p.1 k then (p.1, d) else p) (kv.map fun p => if p.1 = key then (p.1, v) else p) G' ∧ (G' ++ L).Perm (A ++ C)
  | [], _, _, _, _, _, _, _, _, _, _, _, _, hh => by simp [dhas] at hh
  | (a, b) :: kvs, _, w, _, C, k, d, key, v, ⟨k0, v0, us, A, A', e0, ek, h1, h2, e⟩, hx, hk, hn, hh => by
    subst e0
    subst e
    rw [List.map_cons, List.nodup_cons] at hn
    have ekk := keq_keyT ek hk
    by_cases q : k0 = key
    · -- here, and nowhere else
      have no : ∀ {l : List (D × D)} {m : List (List Key × V)} {F : List Addr}, RT K FA Z H w l m F → key ∉ m.map (·.1) → (l.map fun p => if keq p.1 k then (p.1, d) else p) = l ∧ (m.map fun p => if p.1 = key then (p.1, v) else p) = m := fun {l} => by
        induction l with
        | nil => intro m F h _; obtain ⟨rfl, _⟩ := h; exact ⟨rfl, rfl⟩
        | cons c l ih =>
          intro m F h hn'
          obtain ⟨c1, c2⟩ := c
          obtain ⟨k1, v1, us1, B1, B2, f0, fk, g1, g2, f⟩ := h
          subst f0
          rw [List.map_cons, List.mem_cons, not_or] at hn'
          obtain ⟨i1, i2⟩ := ih g2 hn'.2
          have ne : ¬ k1 = key := fun z => hn'.1 z.symm
          simp only [List.map_cons, keq_keyT fk hk, decide_eq_true_eq, if_neg ne, i1, i2, and_self]
      obtain ⟨i1, i2⟩ := no h2 (by rw [← q]; exact hn.1)
      refine ⟨C ++ A', A, ?_, ?_⟩
      · simp only [List.map_cons, ekk, q, decide_true, if_true, i1, i2]
        exact ⟨key, v, us, C, A', rfl, by rw [← q]; exact ek, hx, h2, rfl⟩
      · refine List.perm_append_comm.trans ?_
        rw [List.append_assoc]
        exact List.Perm.append_left A List.perm_append_comm
    · have hh' : dhas kvs k = true := by
        have : dhas ((a, b) :: kvs) k = (keq a k || dhas kvs k) := rfl
        rw [this, ekk, decide_eq_false q] at hh
        simpa using hh
      obtain ⟨G', L, r, hp⟩ := RT_map h2 hx hk hn.2 hh'
      refine ⟨A ++ G', L, ?_, ?_⟩
      · simp only [List.map_cons, ekk, decide_eq_false q, Bool.false_eq_true, if_false, if_neg q]
        exact ⟨k0, v0, _, A, G', rfl, ek, h1, r, rfl⟩
      · rw [List.append_assoc, List.append_assoc]
        exact List.Perm.append_left A hp
theorem RT_has : ∀ {kvs : List (D × D)} {kv : List (List Key × V)} {w : Ow} {A : List Addr} {k : D} {key : List Key}, RT K FA Z H w kvs kv A → keyT k = some key → (kv.any fun p => decide (p.1 = key)) = dhas kvs k
  | [], _, _, _, _, _, h, _ => by rw [h.1]; rfl
  | (a, b) :: kvs, _, w, _, k, key, ⟨k0, v0, us, A, A', e0, ek, h1, h2, e⟩, hk => by
    subst e0
    have : dhas ((a, b) :: kvs) k = (keq a k || dhas kvs k) := rfl
    rw [this, List.any_cons, RT_has h2 hk, keq_keyT ek hk]
theorem RT_app : ∀ {kvs : List (D × D)} {kv : List (List Key × V)} {w : Ow} {A C : List Addr} {k d : D} {key : List Key} {v : V}, RT K FA Z H w kvs kv A → R K FA Z H w d v C → keyT k = some key → RT K FA Z H w (kvs ++ [(k, d)]) (kv ++ [(key, v)]) (A ++ C)
  | [], _, _, _, C, k, d, key, v, h, hx, hk => by
    obtain ⟨rfl, rfl⟩ := h
    exact ⟨key, v, [], C, [], rfl, hk, hx, ⟨rfl, rfl⟩, by simp⟩
  | (a, b) :: kvs, _, w, _, C, k, d, key, v, ⟨k0, v0, us, A, A', e0, ek, h1, h2, e⟩, hx, hk => by
    subst e0
    subst e
    exact ⟨k0, v0, _, A, A' ++ C, rfl, ek, h1, RT_app h2 hx hk, by rw [List.append_assoc]⟩
theorem RT_put {kvs : List (D × D)} {kv : List (List Key × V)} {w : Ow} {A C : List Addr} {k d : D} {key : List Key} {v : V} (h : RT K FA Z H w kvs kv A) (hx : R K FA Z H w d v C) (hk : keyT k = some key) (hn : (kv.map (·.1)).Nodup) :
    ∃ G' L, RT K FA Z H w (dput kvs k d) (putK kv key v) G' ∧ (G' ++ L).Perm (A ++ C) := by
  unfold dput putK
  rw [RT_has h hk]
  cases hh : dhas kvs k with
  | true =>
    simp only [if_true]
    exact RT_map h hx hk hn hh
  | false =>
    simp only [Bool.false_eq_true, if_false]
    exact ⟨A ++ C, [], RT_app h hx hk, by simp⟩
theorem RT_nd {kv : List (List Key × V)} {key : List Key} {v : V} (hn : (kv.map (·.1)).Nodup) : ((putK kv key v).map (·.1)).Nodup := by
  unfold putK
  split
  · rw [List.map_map]
    have : ((fun p : List Key × V => p.1) ∘ fun p => if p.1 = key then (p.1, v) else p) = fun p => p.1 := by
      funext p
      simp only [Function.comp]
      split <;> rfl
    rw [this]
    exact hn
  · rename_i hh
    rw [List.map_append, List.map_cons, List.map_nil]
    refine List.nodup_append.mpr ⟨hn, List.nodup_cons.mpr ⟨fun m => (by cases m), List.nodup_nil⟩, fun a ha b hb => ?_⟩
    have e : b = key := by simpa using hb
    rintro rfl
    subst e
    obtain ⟨p, hp, e⟩ := List.mem_map.mp ha
    exact hh (List.any_eq_true.mpr ⟨p, hp, decide_eq_true e⟩)
theorem dictT_mk {q : Addr} {kvs : List (D × D)} {kv : List (List Key × V)} {k : D} {key : List Key} {G : List Addr} {w1 : Ow} {x : Val} {v : V} {Fd : List Addr} {own : Bool} (hr : RT K FA Z H (kid w1) kvs kv G) (hx : R K FA Z H x.2 x.1 v Fd) (hown : own = allDeep [x]) (hk : keyT k = some key) (hn : (kv.map (·.1)).Nodup)
    (hq : q ∉ G ∧ q ∉ [Fd].flatten) (zG : ∀ a ∈ G ++ [Fd].flatten, Z a = none) :
    (w1 = .deep ∧ own = true → ∃ G' L, (G' ++ L).Perm (G ++ [Fd].flatten) ∧ R K FA Z (upd H q (.dT (putK kv key v))) .deep (.dic true (dput kvs k x.1)) (.ref q) (q :: G')) ∧ (w1 ≠ .deep ∨ own = false → R K FA (zadd Z H (G ++ [Fd].flatten)) (upd H q (.dT (putK kv key v))) .top (.dic true (dput kvs k x.1)) (.ref q) [q]) := by
  have ef : [Fd].flatten = Fd := by simp
  rw [ef] at hq zG ⊢
  refine ⟨fun hd => ?_, fun hd => ?_⟩
  · have hr' : RT K FA Z H .deep kvs kv G := by rw [hd.1] at hr; exact hr
    have hxd : R K FA Z H .deep x.1 v Fd := by
      have := hd.2
      rw [hown] at this
      simp only [allDeep, Bool.and_true, Bool.or_eq_true, decide_eq_true_eq] at this
      rcases this with z | z
      · obtain ⟨e0, kr⟩ := R_plain _ z hx
        rw [e0]
        exact kr _ _
      · rw [z] at hx
        exact hx
    obtain ⟨G', L, r, hp⟩ := RT_put hr' hxd hk hn
    have ne : ∀ a ∈ G', a ≠ q := fun a ha z => by
      subst z
      rcases List.mem_append.mp (hp.mem_iff.mp (List.mem_append_left L ha)) with m | m
      · exact hq.1 m
      · exact hq.2 m
    exact ⟨G', L, hp, q, G', rfl, .inr ⟨rfl, _, upd_same, RT_nd hn, RT_keep (Le.refl _) _ (fun a ha => upd_ne (ne a ha)) r⟩, rfl⟩
  · have le := zadd_le (H := H) zG
    have r1 : RT K FA (zadd Z H (G ++ Fd)) H .sh kvs kv [] := RT_share le kvs (fun a ha => zadd_in (List.mem_append_left _ ha)) hr
    have r2 : R K FA (zadd Z H (G ++ Fd)) H .sh x.1 v [] := R_share le _ (fun a ha => zadd_in (List.mem_append_right _ ha)) hx
    obtain ⟨G', L, r, hp⟩ := RT_put r1 r2 hk hn
    have e0 := RT_sh _ r
    subst e0
    exact ⟨q, [], rfl, .inr ⟨rfl, _, upd_same, RT_nd hn, RT_keep (H := H) (Le.refl _) _ (fun _ m => (by cases m)) r⟩, rfl⟩
end
/-- a value that is handed out, as a list of one -/
theorem Pe.one {K : PySem.W.Frag} {FA : Nat → Addr → Prop} {w : List Nat} {Z H Z' H' : Hp} {E E1 : En} {Fs Fs1 : List (List Addr)} {σ : Sl} {x : Val} {v : V} {Fd : List Addr} (p : Pe K FA w none Z H E Fs σ x E1 v Z' H' Fd Fs1) : Pes K FA w Z H E Fs σ [x] E1 [v] Z' H' [Fd] Fs1 := by
  obtain ⟨n1, n2, n3⟩ := p.ex rfl
  exact ⟨p.st, p.ch, ⟨p.val, trivial⟩, by simpa using n1, fun a ha => n2 a (by simpa using ha), fun a ha => n3 a (by simpa using ha)⟩
/-- several values, behind what changes others -/
theorem Pes.behind {K : PySem.W.Frag} {FA : Nat → Addr → Prop} {w w2 : List Nat} {Z H Z1 H1 Z2 H2 : Hp} {E E1 E2 : En} {Fs Fs1 Fs2 Fds : List (List Addr)} {σ : Sl} {xs : List Val} {us : List V} (p : Pes K FA w Z H E Fs σ xs E1 us Z1 H1 Fds Fs1) (s : Stt K FA Z2 H2 E2 σ Fs2) (q : Chg w2 Z1 H1 E1 Fs1 Z2 H2 E2 Fs2) :
    Pes K FA (w ++ w2) Z H E Fs σ xs E2 us Z2 H2 Fds Fs2 := by
  have out : ∀ a ∈ Fds.flatten, a ∉ Fs1.flatten := fun a ha hb => (List.nodup_append.mp p.nd).2.2 a ha a hb rfl
  have th : ∀ a ∈ Fds.flatten, H1 a ≠ none := fun a ha => RE.there p.val ha
  have keep : ∀ a ∈ Fds.flatten, H2 a = H1 a := fun a ha => by
    cases e : H1 a with
    | none => exact absurd e (th a ha)
    | some u => exact q.frame a u e fun z => out a ha z.flat
  refine ⟨s, p.ch.trans q, RE.keep q.le keep p.val, ?_, fun a ha => ?_, fun a ha => (p.fd a ha).imp id fun y => y.mono fun i hi => List.mem_append_left _ hi⟩
  · refine List.nodup_append.mpr ⟨(List.nodup_append.mp p.nd).1, s.nd, fun a ha b hb => ?_⟩
    rintro rfl
    rcases q.flat hb with z | z
    · exact out a ha z
    · exact th a ha z
  · cases e : Z2 a with
    | none => rfl
    | some u =>
      rcases q.zn a u e with z | z | z
      · rw [p.zf a ha] at z; cases z
      · exact absurd z (out a ha)
      · exact absurd z (th a ha)
theorem RT_len {K : PySem.W.Frag} {FA : Nat → Addr → Prop} {Z H : Hp} {l : List (D × D)} : ∀ {w : Ow} {v : List (List Key × V)} {F : List Addr}, RT K FA Z H w l v F → v.length = l.length := by
  induction l with
  | nil => intro w v F h; rw [h.1]; rfl
  | cons c l ih => intro w v F h; obtain ⟨c1, c2⟩ := c; obtain ⟨_, _, _, _, _, e0, _, _, h2, _⟩ := h; rw [e0]; simp [ih h2]
/-- the slot's entry: a dict of its own -/
theorem Stt.dic_at {K : PySem.W.Frag} {FA : Nat → Addr → Prop} {Z H : Hp} {E : En} {Fs : List (List Addr)} {σ : Sl} {i : Nat} {tt : Bool} {kvs : List (D × D)} {w : Ow} (st : Stt K FA Z H E σ Fs) (e : E[i]? = some (some (.dic tt kvs, w))) (hw : w ≠ .sh) :
    ∃ q G, σ[i]? = some (some (.ref q)) ∧ Fs.getD i [] = q :: G ∧ ((tt = false ∧ ∃ kv, H q = some (.dK kv) ∧ (kv.map (·.1)).Nodup ∧ RK K FA Z H (kid w) kvs kv G) ∨ (tt = true ∧ ∃ kv, H q = some (.dT kv) ∧ (kv.map (·.1)).Nodup ∧ RT K FA Z H (kid w) kvs kv G)) := by
  obtain ⟨v, hv, ro⟩ := st.re.get e
  cases v with
  | none => exact ro.elim
  | some v =>
    obtain ⟨q, G, rfl, hq, ef⟩ := (show R K FA Z H w (.dic tt kvs) v (Fs.getD i []) from ro)
    refine ⟨q, G, hv, ?_, ?_⟩
    · rw [ef]
      cases w
      · exact absurd rfl hw
      · rfl
      · rfl
    · cases w
      · exact absurd rfl hw
      · exact hq
      · exact hq
/-- the slot's entry: a list of its own -/
theorem Stt.lst_at {K : PySem.W.Frag} {FA : Nat → Addr → Prop} {Z H : Hp} {E : En} {Fs : List (List Addr)} {σ : Sl} {i : Nat} {ys : List D} {w : Ow} (st : Stt K FA Z H E σ Fs) (e : E[i]? = some (some (.lst ys, w))) (hw : w ≠ .sh) :
    ∃ q vs G, σ[i]? = some (some (.ref q)) ∧ H q = some (.lst vs) ∧ Rs K FA Z H (kid w) ys vs G ∧ Fs.getD i [] = q :: G := by
  obtain ⟨v, hv, ro⟩ := st.re.get e
  cases v with
  | none => exact ro.elim
  | some v =>
    obtain ⟨q, vs, G, rfl, hq, hr, ef⟩ := (show R K FA Z H w (.lst ys) v (Fs.getD i []) from ro)
    refine ⟨q, vs, G, hv, ?_, hr, ?_⟩
    · cases w
      · exact absurd rfl hw
      · exact hq
      · exact hq
    · rw [ef]
      cases w
      · exact absurd rfl hw
      · rfl
      · rfl
section
variable {X : Cx} {B : Bk} {pos p pos' : Pos} {ee ek : Expr} {e k : Ex} {i : Nat} {x : Str}
theorem _root_.L2.PS.or {X : Cx} {st : Stmt} {t t' : TS} (h : PS X st t) (h' : PS X st t') : PS X st (fun D σ H => t D σ H ∨ t' D σ H) :=
  ⟨fun pins s σ H D I w => w.elim (h.run pins s σ H D I) (h'.run pins s σ H D I)⟩
theorem ex_setIx {Φ : Phi} {E : En} {o : Out} (h : ex Φ (.setIx i k e) E = some o) : ∃ x0 E1 y E2 d w d' r, ev Φ e E = some (x0, E1) ∧ (∃ z, (esc e x0 E1).2[i]? = some (some z)) ∧ ev Φ k (esc e x0 E1).2 = some (y, E2) ∧ E2[i]? = some (some (d, w)) ∧ w ≠ .sh ∧ setD y.1 (esc e x0 E1).1.1 d = some (d', r) ∧
    o = .nx (E2.set i (some (d', if allDeep [(esc e x0 E1).1] = true then w else .top))) := by
  simp only [ex, Option.bind_eq_bind, Option.bind_eq_some_iff, Prod.exists] at h
  obtain ⟨xd, xw, E1, h1, h2⟩ := h
  cases hz : (esc e (xd, xw) E1).2[i]? with
  | none => rw [hz] at h2; simp at h2
  | some oz =>
    rw [hz] at h2
    cases oz with
    | none => simp at h2
    | some z =>
      simp only [Option.bind_eq_some_iff, Prod.exists] at h2
      obtain ⟨yd, yw, E2, h3, rd, rw', E3, h4, h5⟩ := h2
      simp only [Option.some.injEq] at h5
      subst h5
      unfold chg at h4
      cases hd : E2[i]? with
      | none => rw [hd] at h4; cases h4
      | some od =>
        rw [hd] at h4
        cases od with
        | none => cases h4
        | some dw =>
          obtain ⟨d, w⟩ := dw
          simp only at h4
          split at h4
          · cases h4
          · rename_i hw
            simp only [List.isEmpty_nil, if_true, Option.bind_eq_bind, Option.bind_eq_some_iff, Prod.exists] at h4
            obtain ⟨d', r, h6, h7⟩ := h4
            simp only [Option.some.injEq, Prod.mk.injEq] at h7
            obtain ⟨_, rfl⟩ := h7
            refine ⟨(xd, xw), E1, (yd, yw), E2, d, w, d', r, h1, ⟨z, hz⟩, h3, hd, hw, h6, ?_⟩
            simp only [allDeep, Bool.and_true, Out.nx.injEq]
/-- xs[k] = e, xs a local list -/
theorem ss_setIx (hN : X.N[i]? = some x) (hv : Vis X.env.scope x) (he : PE X ee (SE B e)) (hk : PE X ek (SE B k)) (hu : X.A.units + 1 < cLine) (hd : (x == ("__debug__" : Str)) = false := by decide) (hcd : (x == ("__classdict__" : Str)) = false := by decide)
    (hs : swapsWithSole [.Subscript (.Name x p) ek pos'] ee pos.line X.env = pure false := by rfl) (hw : swappedStores [.Subscript (.Name x p) ek pos'] ee X.env = pure none := by rfl)
    (h1 : (assignEach [.Subscript (.Name x p) ek pos'] X.env).map (·.2) = [assign (.Subscript (.Name x p) ek pos') X.env] := by rfl)
    (ha : ∀ v, assign (.Subscript (.Name x p) ek pos') X.env v = (do
      let ov ← holding [v] (eval (.Name x p) X.env)
      let iv ← holding [v, ov] (eval ek X.env)
      standAt pos'
      holding [v, ov, iv] (setItem ov iv v)
      release [v, ov, iv] []) := by intro _; rfl) (hs2 : swapsWith ee (some (.Subscript (.Name x p) ek pos')) pos.line X.env = pure false := by rfl) : PS X (.Assign [.Subscript (.Name x p) ek pos'] ee pos) (SS B (.setIx i k e)) := by
  refine ((ps_asg he (pg_sub (pe_var hN hv hd hcd) hk set_list ha) hs hw h1).or (ps_dput hu (pe_var hN hv hd hcd) hk he hs2)).imp fun D σ H h => ?_
  obtain ⟨Z, E, Fs, o, s, hx, q⟩ := h
  obtain ⟨x0, E1, y, E2, d, w, d', r, h1, ⟨z0, hz⟩, h2, h3, hw, h4, rfl⟩ := ex_setIx hx
  have key : ∀ {R3 : V → V → V → Hp → Prop}, (∀ v vi u H1 H2 Z1 Z2 Fd Fs1 Fs2 Fu, Pe B.K B.FA (wrx e) none Z H E Fs σ (esc e x0 E1).1 (esc e x0 E1).2 v Z1 H1 Fd Fs1 → σ[i]? = some (some vi) → Pe B.K B.FA (wr k) (pr k) Z1 H1 (esc e x0 E1).2 Fs1 σ y E2 u Z2 H2 Fu Fs2 → R3 v vi u H2) →
      SE B e σ H fun v H1 => tVar i σ H1 fun vi H1' => SE B k σ H1' fun u H2 => R3 v vi u H2 := fun {R3} f => by
    refine se_x ⟨Z, E, Fs, x0, E1, s, h1, fun v H1 Z1 Fd Fs1 p => ?_⟩
    obtain ⟨vi, hvi, ri⟩ := p.st.re.get hz
    cases vi with
    | none => exact ri.elim
    | some vi => exact ⟨vi, hvi, Z1, _, Fs1, y, E2, p.st, h2, fun u H2 Z2 Fu Fs2 qk => f v vi u H1 H2 Z1 Z2 Fd Fs1 Fs2 Fu p hvi qk⟩
  have fin : ∀ {Z2 H2 : Hp} {E3 : En} {Z1 H1 : Hp} {Fs3 : List (List Addr)} , Stt B.K B.FA Z2 H2 E3 σ Fs3 → Chg (i :: (wrx e ++ wr k)) Z H E Fs Z2 H2 E3 Fs3 → E3 = E2.set i (some (d', if allDeep [(esc e x0 E1).1] = true then w else .top)) → D.nx σ H2 := fun {Z2 H2 E3 Z1 H1 Fs3} s3 c3 e3 => by
    subst e3
    refine q σ _ Z2 Fs3 s3 (c3.mono fun t ht => ?_) fun _ _ => rfl
    simp only [wrS, List.mem_cons, List.mem_append] at ht ⊢
    rcases ht with z | z | z
    · exact .inl z
    · exact .inr (.inr z)
    · exact .inr (.inl z)
  cases d with
  | dic tt kvs =>
    have h4' : kvs.length < line ∧ keyOk tt y.1 = true ∧ d' = .dic tt (dput kvs y.1 (esc e x0 E1).1.1) := by
      simp only [setD] at h4
      split at h4
      · rename_i hc
        simp only [Option.some.injEq, Prod.mk.injEq] at h4
        exact ⟨hc.1, hc.2, h4.1.symm⟩
      · cases h4
    obtain ⟨hl, hko, rfl⟩ := h4'
    refine .inr (key fun v vi u H1 H2 Z1 Z2 Fd Fs1 Fs2 Fu p hvi qk => ?_)
    have pb := (p.one).behind qk.st qk.ch
    obtain ⟨qa, G, hσ, ef, hq⟩ := qk.st.dic_at h3 hw
    rw [hvi] at hσ
    cases hσ
    have nself : (qa :: G).Nodup ∧ ∀ a ∈ qa :: G, a ∈ Fs2.flatten := by
      have sp := self_perm (Fs := Fs2) (i := i)
      rw [ef] at sp
      exact ⟨(List.nodup_append.mp (sp.nodup_iff.mp qk.st.nd)).1, fun a ha => mem_flat (i := i) (by rw [ef]; exact ha)⟩
    have hqn : qa ∉ G ∧ qa ∉ [Fd].flatten := ⟨(List.nodup_cons.mp nself.1).1, fun m => (List.nodup_append.mp pb.nd).2.2 qa m qa (nself.2 qa List.mem_cons_self) rfl⟩
    have zG : ∀ a ∈ G ++ [Fd].flatten, Z2 a = none := fun a ha => by
      rcases List.mem_append.mp ha with m | m
      · exact qk.st.zf a (nself.2 a (List.mem_cons_of_mem _ m))
      · exact pb.zf a m
    rcases hq with ⟨rfl, kv, hq, hn, hr⟩ | ⟨rfl, kv, hq, hn, hr⟩
    · obtain ⟨kk, hkk⟩ : ∃ kk, keyD y.1 = some kk := Option.isSome_iff_exists.mp (by simpa [keyOk] using hko)
      obtain ⟨Z3, Fs3, s3, c3⟩ := pb.change (o := .dK (putK kv kk v)) (own := allDeep [(esc e x0 E1).1]) (w1 := w) hvi ef (by rw [hq]; exact fun z => by cases z) rfl rfl
        (dictK_mk hr pb.val.1 rfl hkk hn hqn zG) hw
      exact ⟨qa, _, rfl, .inl ⟨kv, kk, hq, key_val hkk qk.val, by rw [RK_len hr]; exact hl, rfl⟩, fin (Z1 := Z) (H1 := H) s3 c3 rfl⟩
    · obtain ⟨kk, hkk⟩ : ∃ kk, keyT y.1 = some kk := Option.isSome_iff_exists.mp (by simpa [keyOk] using hko)
      obtain ⟨Z3, Fs3, s3, c3⟩ := pb.change (o := .dT (putK kv kk v)) (own := allDeep [(esc e x0 E1).1]) (w1 := w) hvi ef (by rw [hq]; exact fun z => by cases z) rfl rfl
        (dictT_mk hr pb.val.1 rfl hkk hn hqn zG) hw
      obtain ⟨tb, rfl, htb⟩ := keyT_val qk.st.sub hkk qk.val
      have len : kv.length = kvs.length := RT_len hr
      exact ⟨qa, _, rfl, .inr ⟨kv, kk, tb, hq, rfl, htb, by rw [len]; exact hl, rfl⟩, fin (Z1 := Z) (H1 := H) s3 c3 rfl⟩
  | lst ys =>
    refine .inl (key fun v vi u H1 H2 Z1 Z2 Fd Fs1 Fs2 Fu p hvi qk => ?_)
    have pb := (p.one).behind qk.st qk.ch
    · skip
      obtain ⟨yd, yw⟩ := y
      cases yd with
      | int kk =>
        simp only [setD, storeI, Option.map_map, Option.map_eq_some_iff] at h4
        obtain ⟨j, hj, h5⟩ := h4
        simp only [Function.comp, Prod.mk.injEq] at h5
        obtain ⟨rfl, rfl⟩ := h5
        obtain ⟨qa, vs, G, hσ, hq, hr, ef⟩ := qk.st.lst_at h3 hw
        rw [hvi] at hσ
        cases hσ
        have hjl : j < ys.length := by
          unfold ixN at hj
          split at hj
          · split at hj
            · cases hj; omega
            · cases hj
          · split at hj
            · cases hj; omega
            · cases hj
        have nself : (qa :: G).Nodup ∧ ∀ a ∈ qa :: G, a ∈ Fs2.flatten := by
          have sp := self_perm (Fs := Fs2) (i := i)
          rw [ef] at sp
          exact ⟨(List.nodup_append.mp (sp.nodup_iff.mp qk.st.nd)).1, fun a ha => mem_flat (i := i) (by rw [ef]; exact ha)⟩
        have hqn : qa ∉ G ∧ qa ∉ [Fd].flatten := ⟨(List.nodup_cons.mp nself.1).1, fun m => (List.nodup_append.mp pb.nd).2.2 qa m qa (nself.2 qa List.mem_cons_self) rfl⟩
        have zG : ∀ a ∈ G ++ [Fd].flatten, Z2 a = none := fun a ha => by
          rcases List.mem_append.mp ha with m | m
          · exact qk.st.zf a (nself.2 a (List.mem_cons_of_mem _ m))
          · exact pb.zf a m
        refine ⟨qa, vs, kk, j, rfl, qk.val.1, hq, by rw [Rs_len hr]; exact hj, ?_⟩
        obtain ⟨Z3, Fs3, s3, c3⟩ := pb.change (o := .lst (vs.set j v)) (own := allDeep [(esc e x0 E1).1]) (w1 := w) hvi ef (by rw [hq]; exact fun z => by cases z) rfl rfl
          (list_mk hw hr pb.val rfl hqn zG fun {Zz Hz w A C} ra rc => Rs_set hjl ra rc) hw
        exact fin (Z1 := Z) (H1 := H) s3 c3 rfl
      | _ => simp [setD] at h4
  | _ => simp [setD] at h4
end
end BS

set_option Elab.async false
set_option linter.all false
set_option maxRecDepth 100000
set_option maxHeartbeats 2000000
namespace BS
open PySem PySem.Spec PyProof.Rows L2
/-! ### join -/
theorem str_app_len (i j : Str) : (i ++ j).length = i.length + j.length := by
  show (i.cps ++ j.cps).size = _
  simp
  rfl
theorem join_len (a : Str) : ∀ ys : List Str, (Str.join a ys).length ≤ (ys.map (·.length)).sum + ys.length * a.length
  | [] => by show (Str.empty).length ≤ _; exact Nat.zero_le _
  | [x] => by show x.length ≤ _; simp
  | x :: y :: r => by
    have ih := join_len a (y :: r)
    show (x ++ a ++ Str.join a (y :: r)).length ≤ _
    rw [str_app_len, str_app_len]
    simp only [List.map_cons, List.sum_cons, List.length_cons, Nat.add_mul] at ih ⊢
    omega
theorem join_ok {a : Str} (ha : PyData.strOk a = true) : ∀ {ys : List Str}, (∀ y ∈ ys, PyData.strOk y = true) → PyData.strOk (Str.join a ys) = true
  | [], _ => by show PyData.strOk Str.empty = true; decide +kernel
  | [x], h => h x (by simp)
  | x :: y :: r, h => strOk_app (strOk_app (h x (by simp)) ha) (join_ok ha fun z hz => h z (List.mem_cons_of_mem _ hz))
theorem txt_join (a : Str) (ys : List Str) : Txt.join a ys = Str.join a ys := by
  show Builtin.Str.glued a ys = _
  exact PySem.StrLaws.glued_eq_join a ys
section
variable {K : PySem.W.Frag} {FA : Nat → Addr → Prop} {Z H : Hp}
theorem Rs_strs : ∀ {xs : List D} {ys : List Str} {w vs F}, strsOf xs = some ys → Rs K FA Z H w xs vs F → vs = ys.map V.str ∧ ∀ y ∈ ys, y.length ≤ line ∧ PyData.strOk y = true
  | [], ys, w, vs, F, h, r => by
    simp only [strsOf, Option.some.injEq] at h
    subst h
    exact ⟨r.1, fun _ m => by cases m⟩
  | d :: xs, ys, w, vs, F, h, r => by
    cases d with
    | str s =>
      simp only [strsOf, Option.map_eq_some_iff] at h
      obtain ⟨zs, h1, rfl⟩ := h
      obtain ⟨v, vs', F1, F2, rfl, r1, r2, _⟩ := r
      obtain ⟨e, hz⟩ := Rs_strs h1 r2
      refine ⟨by rw [r1.1.1, e]; rfl, fun y hy => ?_⟩
      rcases List.mem_cons.mp hy with rfl | hy
      · exact r1.1.2
      · exact hz y hy
    | _ => simp [strsOf] at h
end
section
variable {X : Cx} {B : Bk} {pos p : Pos} {ea eb : Expr} {a b : Ex}
theorem ok_join : Ok2 B (app2 .join) (fun x y H Q => ∃ a p, ∃ ys : List Str, x = .str a ∧ [y] = [.ref p] ∧ (SqL B.K H p (ys.map V.str) ∨ SqT B.K H p (ys.map V.str)) ∧
    (ys.map (·.length)).sum + ys.length * a.length ≤ 16777216 ∧ Q (.str (Txt.join a ys)) H) := by
  intro a b d' v u w w' F F' Z H Q hs r1 r2 he k
  cases a <;> cases b <;> simp [app2] at he
  rename_i s xs
  cases e : strsOf xs with
  | none => rw [e] at he; simp at he
  | some ys =>
    rw [e] at he
    simp only at he
    split at he
    · rename_i hc
      simp only [Option.some.injEq] at he
      subst he
      obtain ⟨q, vs, G, e1, hq, hr, ef⟩ := r2
      obtain ⟨e2, hy⟩ := Rs_strs e hr
      refine ⟨s, q, ys, r1.1.1, by rw [e1], .inl (e2 ▸ hq.sub hs), hc, k _ fun w => ⟨⟨rfl, ?_, ?_⟩, rfl⟩⟩
      · rw [txt_join]
        exact Nat.le_trans (join_len _ _) hc
      · rw [txt_join]
        exact join_ok r1.1.2.2 fun y m => (hy y m).2
    · cases he
theorem sx_join {s : Str} {apos : Pos} {k} {q : Pos} (hl : s.length ≤ line := by decide +kernel) (hk : PyData.strOk s = true := by decide +kernel) (hb : PE X eb (SE B b)) (hK : X.K = B.K := by rfl) (hs1 : starEach [eb] X.env = [(false, eval eb X.env)] := by rfl) (hbase : attributeBase (.Constant (.str s) k q) "join" X.env (eval (.Constant (.str s) k q) X.env) = eval (.Constant (.str s) k q) X.env := by rfl) (hline : (apos.endLine == pos.line) = true := by rfl) :
    PE X (.Call (.Attribute (.Constant (.str s) k q) "join" apos) [eb] [] pos) (SE B (.op2 .join (.str s) b)) := by
  refine (pe_join (sx_str (B := B) hl hk) hb hs1 hbase hline).imp fun σ H Q h => ?_
  have h2 := se2 ok_join h
  rw [hK]
  obtain ⟨Z, E, Fs, x, E', st, he, kk⟩ := h2
  refine ⟨Z, E, Fs, x, E', st, he, fun v H' Z' Fd Fs' pp => ⟨⟨s, ?_⟩, kk v H' Z' Fd Fs' pp⟩⟩
  simp only [ev, Option.some.injEq, Prod.mk.injEq] at he
  obtain ⟨rfl, rfl⟩ := he
  exact pp.val.1.1
/-! ### list(..) of a list or a tuple -/
theorem kpr_ex {a : Ex} {y : Val} {E1 : En} (hpl : plains (match (kesc a y E1).1.1 with | .lst ys => ys | .tup ys => ys | _ => []) = false) : kpr a y = none := by
  unfold kpr
  split
  · rename_i hk
    cases hp : isPl a with
    | false => simp [pr, hp]
    | true =>
      have ek : kesc a y E1 = (y, E1) := by simp [kesc, hp, hk]
      rw [ek] at hpl
      obtain ⟨yd, yw⟩ := y
      cases yd <;> simp_all
  · rfl
theorem sx_list (hg : Gl X "list") (hm : X.mg "list" = none) (ha : PE X ea (SE B a)) (hK : X.K = B.K := by rfl) (he : starEach [ea] X.env = [(false, eval ea X.env)] := by rfl) : PE X (.Call (.Name "list" p) [ea] [] pos) (SE B (.opP .list a)) := by
  refine (pe_callTy call_list_of hg hm boot_list' (pa_cons ha pa_nil he) (by decide) (by decide) he).imp fun σ H Q h => ?_
  obtain ⟨Z, E, Fs, x, E', st, he, k⟩ := h
  simp only [ev, Option.bind_eq_bind, Option.bind_eq_some_iff, Prod.exists] at he
  obtain ⟨yd, yw, E1, h1, h2⟩ := he
  refine ⟨Z, E, Fs, (yd, yw), E1, st, h1, fun v H1 Z0 Fd0 Fs0 p0 => ?_⟩
  obtain ⟨Z1, Fd, Fs1, p⟩ := p0.kesc
  have hex := @kpr_ex a (yd, yw) E1
  generalize kesc a (yd, yw) E1 = yk at *
  obtain ⟨⟨d, w⟩, E1'⟩ := yk
  cases d with
  | lst ys =>
    simp only [Option.some.injEq, Prod.mk.injEq] at h2
    obtain ⟨rfl, rfl⟩ := h2
    obtain ⟨q, vs, G, rfl, hq, hr, ef⟩ := p.val
    refine ⟨q, vs, rfl, .inl (hK ▸ hq.sub p.st.sub), fun l hl => ?_⟩
    obtain ⟨Fd', pp⟩ := new_list (u := w) p.st p.ch hr hl fun hpl hdeep => by
      subst hdeep
      obtain ⟨n1, n2, n3⟩ := p.ex (hex hpl)
      have ss : ∀ a' ∈ G, a' ∈ Fd := fun a' ha => by rw [ef]; exact List.mem_cons_of_mem _ ha
      exact ⟨n1.sublist (List.Sublist.append_right (by rw [ef]; exact List.sublist_cons_self _ _) _), fun a' ha => n2 a' (ss a' ha), fun a' ha => n3 a' (ss a' ha)⟩
    exact k _ _ Z1 Fd' Fs1 pp
  | tup ys =>
    simp only [Option.some.injEq, Prod.mk.injEq] at h2
    obtain ⟨rfl, rfl⟩ := h2
    obtain ⟨q, vs, rfl, hq, hr⟩ := p.val
    refine ⟨q, vs, rfl, .inr (hK ▸ SqT.of (tup_sub p.st.sub hq)), fun l hl => ?_⟩
    obtain ⟨Fd', pp⟩ := new_list (u := w) p.st p.ch hr hl fun hpl hdeep => p.ex (hex hpl)
    exact k _ _ Z1 Fd' Fs1 pp
  | _ => cases h2
end
end BS

set_option Elab.async false
set_option linter.all false
set_option maxRecDepth 100000
set_option maxHeartbeats 2000000
namespace BS
open PySem PySem.Spec PyProof.Rows L2
section
variable {K : PySem.W.Frag} {FA : Nat → Addr → Prop} {Z H : Hp}
theorem fos_sub {G : Nat → List Addr} {Fs : List (List Addr)} (h : ∀ j, G j = [] ∨ G j = Fs.getD j []) : ∀ n s, (((List.range' s n).map G).flatten).Sublist (Fs.drop s).flatten
  | 0, s => by simp
  | n + 1, s => by
    simp only [List.range'_succ, List.map_cons, List.flatten_cons]
    have ih := fos_sub h n (s + 1)
    by_cases hs : s < Fs.length
    · rw [List.drop_eq_getElem_cons hs, List.flatten_cons]
      refine List.Sublist.append ?_ ih
      rcases h s with e | e
      · rw [e]; exact List.nil_sublist _
      · rw [e, List.getD_eq_getElem?_getD, List.getElem?_eq_getElem hs]
        exact List.Sublist.refl _
    · have e : G s = [] := by
        rcases h s with e | e
        · exact e
        · rw [e, List.getD_eq_getElem?_getD, List.getElem?_eq_none (by omega)]; rfl
      rw [e, List.nil_append]
      rw [List.drop_eq_nil_of_le (by omega)] at ih ⊢
      exact ih
theorem RE_start : ∀ {xs : List Val} {vs : List V} {Fds : List (List Addr)} (n : Nat), RL K FA Z H xs vs Fds → RE K FA Z H (xs.map some ++ List.replicate n none) (vs.map some ++ List.replicate n none) (Fds ++ List.replicate n [])
  | [], [], [], 0, _ => trivial
  | [], [], [], n + 1, h => ⟨rfl, RE_start n h⟩
  | x :: xs, v :: vs, F :: Fds, n, h => ⟨h.1, RE_start n h.2⟩
  | [], _ :: _, _, _, h => h.elim
  | _ :: _, [], _, _, h => h.elim
  | [], [], _ :: _, _, h => h.elim
  | _ :: _, _ :: _, [], _, h => h.elim
def fosOf (d : Def) (Fs : List (List Addr)) : List (List Addr) := (List.range d.np).map fun j => if (asg d.body).contains j then [] else Fs.getD j []
theorem fosOf_sub (d : Def) (Fs : List (List Addr)) : (fosOf d Fs).flatten.Sublist Fs.flatten := by
  have := fos_sub (G := fun j => if (asg d.body).contains j then [] else Fs.getD j []) (Fs := Fs) (fun j => by
    by_cases h : (asg d.body).contains j = true
    · exact .inl (if_pos h)
    · exact .inr (if_neg h)) d.np 0
  rw [← List.range_eq_range'] at this
  rw [List.drop_zero] at this
  exact this
theorem outs_re {d : Def} {E : En} {σ : Sl} {Fs : List (List Addr)} {vs : List V} (hl : vs.length = d.np) (re : RE K FA Z H E σ Fs) (h0 : ∀ j v, vs[j]? = some v → ¬ (asg d.body).contains j = true → σ[j]? = some (some v)) : RE K FA Z H (outs d E) (vs.map some) (fosOf d Fs) := by
  refine RE.mk' (by simp [outs, hl]) (by simp [fosOf, hl]) fun j x v hx hv => ?_
  have hj : j < d.np := by
    have := (List.getElem?_eq_some_iff.mp hx).1
    simpa [outs] using this
  have e1 : (outs d E)[j]? = some (if (asg d.body).contains j then none else E.getD j none) := by
    simp [outs, List.getElem?_map, List.getElem?_range hj]
  have e2 : (fosOf d Fs).getD j [] = if (asg d.body).contains j then [] else Fs.getD j [] := by
    simp [fosOf, List.getD_eq_getElem?_getD, List.getElem?_map, List.getElem?_range hj]
  rw [e1] at hx
  rw [e2]
  simp only [Option.some.injEq] at hx
  by_cases hc : (asg d.body).contains j = true
  · rw [if_pos hc] at hx ⊢
    subst hx
    exact rfl
  · rw [if_neg hc] at hx ⊢
    rw [List.getElem?_map, Option.map_eq_some_iff] at hv
    obtain ⟨u, hu, rfl⟩ := hv
    have hs := h0 j u hu hc
    have hlen := re.length.1
    have hjl : j < E.length := by rw [hlen]; exact (List.getElem?_eq_some_iff.mp hs).1
    have hE : E[j]? = some (E.getD j none) := by
      rw [List.getD_eq_getElem?_getD, List.getElem?_eq_getElem hjl]; rfl
    obtain ⟨v', hv', ro⟩ := re.get hE
    rw [hs] at hv'
    cases hv'
    rw [← hx]
    exact ro
end
section
variable {P : Program} {w : World} {K : PySem.W.Frag} {mg : Str → Option Value} {base : Heap} {FA : Nat → Addr → Prop}
theorem def_sp {Φ : Phi} {d : Def} {vs : List V} {H : Hp} {Q : VK} {E : XK} {N : List Str} (hN : N.length = d.ns) (h : spV K FA (callD Φ d) vs H Q E) : SS ⟨K, FA, Φ⟩ d.body { nx := fun _ H' => Q .non H', rt := Q } (L2.start N vs) H := by
  obtain ⟨Z, xs, Fds, r, os, sub, rl, nd, zf, hc, k⟩ := h
  have hl := rl.length
  unfold callD at hc
  split at hc
  · rename_i hnp
    have e0 : L2.start N vs = vs.map some ++ List.replicate (d.ns - d.np) none := by
      unfold L2.start
      rw [hN, hl, hnp]
    have st : Stt K FA Z H (xs.map some ++ List.replicate (d.ns - d.np) none) (L2.start N vs) (Fds ++ List.replicate (d.ns - d.np) []) := by
      rw [e0]
      refine ⟨sub, RE_start _ rl, ?_, ?_⟩
      · simpa using nd
      · simpa using zf
    have fl : (Fds ++ List.replicate (d.ns - d.np) ([] : List Addr)).flatten = Fds.flatten := by simp
    have keepS : ∀ {σ' : Sl}, (∀ i, i ∉ asg d.body → σ'[i]? = (L2.start N vs)[i]?) → ∀ j v, vs[j]? = some v → ¬ (asg d.body).contains j = true → σ'[j]? = some (some v) := fun hs j v hv hc => by
      rw [hs j (by simpa using hc), e0, List.getElem?_append_left (by rw [List.length_map]; exact (List.getElem?_eq_some_iff.mp hv).1), List.getElem?_map, hv]
      rfl
    cases ho : ex Φ d.body (xs.map some ++ List.replicate (d.ns - d.np) none) with
    | none => rw [ho] at hc; cases hc
    | some o =>
      rw [ho] at hc
      refine ⟨Z, _, _, o, st, ho, ?_⟩
      cases o with
      | nx E' =>
        simp only [Option.some.injEq, Prod.mk.injEq] at hc
        obtain ⟨rfl, rfl⟩ := hc
        intro σ' H' Z' Fs' s' c' hs
        refine k .non H' Z' [] (fosOf d Fs') ⟨c'.le, fun a u e => ?_, s'.sub, ⟨rfl, rfl⟩, outs_re (by rw [hl, hnp]) s'.re (keepS hs), ?_, fun a ha => ?_, fun a ha => ?_, fun a u e n => ?_, c'.there⟩
        · have := c'.zn a u e
          rwa [fl] at this
        · simpa using s'.nd.sublist (fosOf_sub d Fs')
        · exact s'.zf a ((fosOf_sub d Fs').subset (by simpa using ha))
        · obtain ⟨j, hj⟩ := of_flat ((fosOf_sub d Fs').subset (by simpa using ha))
          rcases c'.fr j a hj with y | y | y
          · exact .inl (fl ▸ mem_flat y)
          · exact .inr y
          · exact .inl (fl ▸ y.flat)
        · exact c'.frame a u e fun y => n (fl ▸ y.flat)
      | rt x E' =>
        simp only [Option.some.injEq, Prod.mk.injEq] at hc
        obtain ⟨rfl, rfl⟩ := hc
        intro v σ' H' Z' Fd Fs' p hs
        obtain ⟨n1, n2, n3⟩ := p.ex rfl
        refine k v H' Z' Fd (fosOf d Fs') ⟨p.ch.le, fun a u e => ?_, p.st.sub, p.val, outs_re (by rw [hl, hnp]) p.st.re (keepS hs), ?_, fun a ha => ?_, fun a ha => ?_, fun a u e n => ?_, p.ch.there⟩
        · have := p.ch.zn a u e
          rwa [fl] at this
        · exact n1.sublist (List.Sublist.append_left (fosOf_sub d Fs') _)
        · rcases List.mem_append.mp ha with y | y
          · exact n2 a y
          · exact p.st.zf a ((fosOf_sub d Fs').subset y)
        · rcases List.mem_append.mp ha with y | y
          · rcases n3 a y with z | z
            · exact .inr z
            · exact .inl (fl ▸ z.flat)
          · obtain ⟨j, hj⟩ := of_flat ((fosOf_sub d Fs').subset y)
            rcases p.ch.fr j a hj with y | y | y
            · exact .inl (fl ▸ mem_flat y)
            · exact .inr y
            · exact .inl (fl ▸ y.flat)
        · exact p.ch.frame a u e fun y => n (fl ▸ y.flat)
  · cases hc
theorem def_ok {Φ : Phi} {f : Addr} {fd : FuncData} {d : Def} {N ps : List Str} {x qual : Str} {params : Arguments} {body : List Stmt} {scope : Scope} {k : Nat} (F : FunD K x qual params body scope [] [] f fd) (S : FnScope N ps scope) (hp : ps.length = d.np) (hN : N.length = d.ns)
    (hb : ∀ (cdv : Value) (A : Around) (outer : List Env) (s : Shared) (H : Hp) (E : XK), Room k (A.deeper (envOfC qual scope s.heap.objs.size f cdv)) → PSs (cxOf CX0 P w K mg base N qual scope f cdv A outer s H E).nox body (SS ⟨K, FA, Φ⟩ d.body)) :
    FnOk P w K mg base CX0 (k + 1) f fd ps (spV K FA (callD Φ d)) := by
  refine F.ok S (fun vs H Q E h => ?_) fun cdv A outer s H vs Q E hr h => ⟨_, PSs.nox (hb cdv A outer s H E hr), def_sp hN h⟩
  obtain ⟨Z, xs, Fds, r, os, _, rl, _, _, hc, _⟩ := h
  rw [rl.length, hp]
  unfold callD at hc
  split at hc
  · assumption
  · cases hc
end
end BS

set_option Elab.async false
set_option linter.all false
set_option maxRecDepth 100000
set_option maxHeartbeats 2000000
namespace BS
open PySem PySem.Spec PyProof.Rows L2
/-! ### a law's text: its defs (name, statement, parameters), the builtins that stay as they are -/
theorem hu64_of {A : PySem.Around} {k : Nat} (hr : L2.Room k A) : A.units + 64 < PySem.cLine := hr.units
abbrev Tss := List (Str × Stmt × List Str)
def mkD (t : Str × Stmt × List Str) : He.DefD := ⟨(t.1, none), t.1, t.1, defArgs t.2.1, defBody t.2.1, defScope t.2.1, [], []⟩
def dfs (ts : Tss) : List He.DefD := ts.map mkD
def fas (ts : Tss) (fr : List Str) (ci : List (Str × Int) := []) (cs : List (Str × Str) := []) : List He.Fa := (ts.map fun t => He.Fa.glo t.1) ++ (fr.map He.Fa.free ++ (ci.map (fun c => He.Fa.int c.1 c.2) ++ cs.map fun c => He.Fa.str c.1 c.2))
structure Txt (K : PySem.W.Frag) (mg : Str → Option Value) (ts : Tss) (fr : List Str) (ci : List (Str × Int)) (cs : List (Str × Str)) (fdv : Nat → FuncData) : Prop where
  fn : ∀ {x : Str} {st : Stmt} {ps : List Str} (i : Nat), ts[i]? = some (x, st, ps) → FunD K x x (defArgs st) (defBody st) (defScope st) [] [] (He.ga K x) (fdv i)
  glo : ∀ {x : Str} {st : Stmt} {ps : List Str} (i : Nat), ts[i]? = some (x, st, ps) → mg x = some (.ref (He.ga K x))
  free : ∀ {x : Str} (i : Nat), fr[i]? = some x → mg x = none
  int : ∀ {x : Str} {n : Int} (i : Nat), ci[i]? = some (x, n) → ∃ t, mg x = some (.int n t)
  str : ∀ {x z : Str} (i : Nat), cs[i]? = some (x, z) → ∃ t, mg x = some (.str z t)
def FAof (K : PySem.W.Frag) (ts : Tss) : Nat → Addr → Prop := fun g a => ∃ x st ps, ts[g]? = some (x, st, ps) ∧ a = He.ga K x
theorem Txt.of {K : PySem.W.Frag} {mg : Str → Option Value} {h : Heap} {ts : Tss} {fr : List Str} {ci : List (Str × Int)} {cs : List (Str × Str)} (X : K.In h) (G : h.Ns mainGlobals mg) (c : He.SaysD (fas ts fr ci cs) (dfs ts) K) : ∃ fdv, Txt K mg ts fr ci cs fdv := by
  have h1 : ∀ i : Nat, ∃ fd : FuncData, ∀ x st ps, ts[i]? = some (x, st, ps) → FunD K x x (defArgs st) (defBody st) (defScope st) [] [] (He.ga K x) fd := fun i => by
    cases e : ts[i]? with
    | none => exact ⟨PySem.W.fnOf "" "" (defArgs (.Pass ⟨0, 0, 0, 0⟩)) (defBody (.Pass ⟨0, 0, 0, 0⟩)) (defScope (.Pass ⟨0, 0, 0, 0⟩)) .none .none .none .none none .none .none, fun _ _ _ z => by cases z⟩
    | some t =>
      obtain ⟨fd, F⟩ := c.def_ i (d := mkD t) (by unfold dfs; rw [List.getElem?_map, e]; rfl)
      exact ⟨fd, fun x st ps z => by cases z; exact F⟩
  obtain ⟨fdv, hf⟩ := Classical.axiomOfChoice h1
  refine ⟨fdv, fun i z => hf i _ _ _ z, fun {x st ps} i z => ?_, fun {x} i z => ?_, fun {x n} i z => ?_, fun {x y} i z => ?_⟩
  · exact He.glo_ok X G (c.fact i (f := .glo x) (by
      unfold fas
      have hl : i < (ts.map fun t => He.Fa.glo t.1).length := by
        rw [List.length_map]
        exact (List.getElem?_eq_some_iff.mp z).1
      rw [List.getElem?_append_left hl, List.getElem?_map, z]
      rfl))
  · exact He.free_ok X G (c.fact (ts.length + i) (f := .free x) (by
      unfold fas
      have hl : i < (fr.map He.Fa.free).length := by
        rw [List.length_map]
        exact (List.getElem?_eq_some_iff.mp z).1
      rw [List.getElem?_append_right (by simp), List.length_map, Nat.add_sub_cancel_left, List.getElem?_append_left hl, List.getElem?_map, z]
      rfl))
  · exact He.int_ok X G (c.fact (ts.length + (fr.length + i)) (f := .int x n) (by
      unfold fas
      have hl : i < (ci.map fun c => He.Fa.int c.1 c.2).length := by
        rw [List.length_map]
        exact (List.getElem?_eq_some_iff.mp z).1
      rw [List.getElem?_append_right (by simp), List.length_map, Nat.add_sub_cancel_left, List.getElem?_append_right (by simp), List.length_map, Nat.add_sub_cancel_left, List.getElem?_append_left hl, List.getElem?_map, z]
      rfl))
  · exact He.str_ok X G (c.fact (ts.length + (fr.length + (ci.length + i))) (f := .str x y) (by
      unfold fas
      rw [List.getElem?_append_right (by simp), List.length_map, Nat.add_sub_cancel_left, List.getElem?_append_right (by simp), List.length_map, Nat.add_sub_cancel_left, List.getElem?_append_right (by simp), List.length_map, Nat.add_sub_cancel_left, List.getElem?_map, z]
      rfl))
abbrev Oks (P : Program) (w : World) (K : PySem.W.Frag) (mg : Str → Option Value) (base : Heap) (tab : Nat → Option Def) (ts : Tss) (fdv : Nat → FuncData) (n : Nat) : Prop :=
  ∀ {x : Str} {st : Stmt} {ps : List Str} (i : Nat), ts[i]? = some (x, st, ps) → FnOk P w K mg base CX0 n (He.ga K x) (fdv i) ps (spV K (FAof K ts) (call tab n i))
theorem oks0 {P : Program} {w : World} {K : PySem.W.Frag} {mg : Str → Option Value} {base : Heap} {tab : Nat → Option Def} {ts : Tss} {fdv : Nat → FuncData} : Oks P w K mg base tab ts fdv 0 := by
  intro x st ps i h
  have no : ∀ vs H Q E, spV K (FAof K ts) (call tab 0 i) vs H Q E → False := fun vs H Q E z => by
    obtain ⟨Z, xs, Fds, r, os, _, _, _, _, hc, _⟩ := z
    simp [call] at hc
  exact ⟨fun vs H Q E z => (no vs H Q E z).elim, fun A outer s H args us vs Q E _ _ _ _ z => (no vs H Q E z).elim⟩
/-- the law's own promise from the evaluator's answer -/
theorem law_sp {K : PySem.W.Frag} {FA : Nat → Addr → Prop} {f : List Val → Option (Val × List (Option Val))} {H : Hp} {a : Addr} {ns : List Int} (h : ∃ w os, f [(.scr ns, .deep)] = some ((.bl true, w), os)) (hS : SqL K H a (ns.map V.int)) :
    spV K FA f [.ref a] H (fun v _ => v = .bl true) fun _ _ _ => False := by
  obtain ⟨w, os, e⟩ := h
  refine ⟨H, [(.scr ns, .deep)], [[]], (.bl true, w), os, fun a u h => .inl h, ⟨⟨⟨a, rfl, hS⟩, rfl⟩, trivial⟩, by simp, fun a m => (by simp at m), e, fun v H' Z' Fd Fos p => p.val.1⟩
end BS

set_option Elab.async false
set_option linter.all false
set_option maxRecDepth 100000
set_option maxHeartbeats 2000000
namespace BS
open PySem PySem.Spec PyProof.Rows L2
section
variable {X : Cx} {B : Bk} {pos p p2 : Pos} {ea eb ec : Expr} {a b c : Ex}
/-! ### what is not said in the evaluator's syntax: it is stuck there -/
theorem sx_stuck {e : Expr} : PE X e (SE B (.io 0)) := ⟨fun pins s σ H Q I ⟨Z, E, Fs, x, E', st, he, k⟩ => by simp [ev] at he⟩
theorem sp_stuck {e : Expr} : PT X e (ST B (.io 0)) := ⟨fun pins s σ H Q I ⟨Z, E, Fs, x, w, E', st, he, k⟩ => by simp [ev] at he⟩
theorem ss_stuck {st : Stmt} : PS X st (SS B (.expr (.io 0))) := ⟨fun pins s σ H D I ⟨Z, E, Fs, o, h, he, k⟩ => by simp [ex, ev] at he⟩
/-! ### a module's numbers and texts -/
theorem sx_gint {x : Str} {i : Int} (hg : Gl X x) (hm : ∃ t, X.mg x = some (.int i t)) (hd : (x == ("__debug__" : Str)) = false := by decide) : PE X (.Name x pos) (SE B (.int i)) := by
  obtain ⟨t, hm⟩ := hm
  exact (pe_glob hg hm (v := .int i) ⟨t, rfl⟩ hd).imp fun σ H Q h => se_leaf (d := .int i) rfl (fun E x E' e => by simp [ev] at e; exact ⟨e.1.symm, e.2.symm⟩) (fun _ _ => ⟨rfl, rfl⟩) h
theorem sx_gstr {x z : Str} (hg : Gl X x) (hm : ∃ t, X.mg x = some (.str z t)) (hl : z.length ≤ line := by decide +kernel) (hk : PyData.strOk z = true := by decide +kernel) (hd : (x == ("__debug__" : Str)) = false := by decide) : PE X (.Name x pos) (SE B (.str z)) := by
  obtain ⟨t, hm⟩ := hm
  exact (pe_glob hg hm (v := .str z) ⟨t, rfl⟩ hd).imp fun σ H Q h => se_leaf (d := .str z) rfl (fun E x E' e => by simp [ev] at e; exact ⟨e.1.symm, e.2.symm⟩) (fun _ _ => ⟨⟨rfl, hl, hk⟩, rfl⟩) h
/-! ### a < b < c -/
def pureE : Ex → Bool
  | .var _ => true
  | .int _ => true
  | .op1 _ a => pureE a
  | .ix a k => pureE a && pureE k
  | _ => false
theorem pureE_ev {Φ : Phi} : ∀ {e : Ex} {E E' : En} {x : Val}, pureE e = true → ev Φ e E = some (x, E') → E' = E
  | .var i, E, E', x, _, h => by
    simp only [ev] at h
    split at h
    · simp only [Option.some.injEq, Prod.mk.injEq] at h; exact h.2.symm
    · cases h
  | .int i, E, E', x, _, h => by simp only [ev, Option.some.injEq, Prod.mk.injEq] at h; exact h.2.symm
  | .op1 o a, E, E', x, hp, h => by
    simp only [ev, Option.bind_eq_bind, Option.bind_eq_some_iff, Prod.exists] at h
    obtain ⟨y, w, E1, h1, d, h2, e⟩ := h
    simp only [Option.some.injEq, Prod.mk.injEq] at e
    rw [← e.2]
    exact pureE_ev (e := a) (by simpa [pureE] using hp) h1
  | .ix a k, E, E', x, hp, h => by
    simp only [pureE, Bool.and_eq_true] at hp
    simp only [ev, Option.bind_eq_bind, Option.bind_eq_some_iff, Prod.exists] at h
    obtain ⟨y, w, E1, h1, h⟩ := h
    split at h
    · simp only [Option.bind_eq_some_iff, Prod.exists] at h
      obtain ⟨z, w', E2, h2, d, h3, e⟩ := h
      simp only [Option.some.injEq, Prod.mk.injEq] at e
      rw [← e.2, pureE_ev hp.2 h2]
      exact pureE_ev hp.1 h1
    · cases h
theorem se_chain {o o' : Op2} {r r' : R2} (hb : pureE b = true) (hr : Ok2 B (app2 o) r) (hr' : Ok2 B (app2 o') r') {σ H Q} (h : SE B (.and (.op2 o a b) (.op2 o' b c)) σ H Q) : tChain r r' (SE B a) (SE B b) (SE B c) σ H Q := by
  obtain ⟨Z, E, Fs, x, E', st, he, k⟩ := h
  obtain ⟨ka, wa, Ea, h1, h2⟩ := ev_and he
  simp only [ev, Option.bind_eq_bind, Option.bind_eq_some_iff, Prod.exists] at h1
  obtain ⟨y, w, E1, h3, h1⟩ := h1
  by_cases hb1 : brw a (wr b) (y, w) = true
  · rw [if_pos hb1] at h1
    simp only [Option.bind_eq_some_iff, Prod.exists] at h1
    obtain ⟨z, w', E2, h4, d, h5, e⟩ := h1
    simp only [Option.some.injEq, Prod.mk.injEq] at e
    obtain ⟨⟨rfl, rfl⟩, rfl⟩ := e
    have e2 := pureE_ev hb h4
    subst e2
    refine ⟨Z, E, Fs, (y, w), _, st, h3, fun v H1 Z1 F1 Fs1 p => ?_⟩
    refine ⟨Z1, _, Fs1, (z, w'), _, p.st, h4, fun u H2 Z2 F2 Fs2 q => ?_⟩
    obtain ⟨_, kr⟩ := p.keep q.ch (brw_ok hb1)
    refine hr _ _ _ v u _ _ _ _ _ H2 _ q.st.sub kr q.val h5 fun t ht => ?_
    refine ⟨ka, (ht .deep).1, ?_⟩
    cases ka with
    | false =>
      simp only [Bool.false_eq_true, if_false] at h2 ⊢
      obtain ⟨rfl, rfl⟩ := h2
      exact k _ H2 Z2 [] Fs2 (((p.trans q).plain (d := .bl false) (u := .bl false) fun w => ⟨rfl, rfl⟩).mono fun i hi => List.mem_append_left _ hi)
    | true =>
      simp only [if_true] at h2 ⊢
      obtain ⟨kc, wc, h6, rfl⟩ := h2
      simp only [ev, Option.bind_eq_bind, Option.bind_eq_some_iff, Prod.exists] at h6
      obtain ⟨y2, w2, E3, h7, h6⟩ := h6
      rw [h4] at h7
      simp only [Option.some.injEq, Prod.mk.injEq] at h7
      obtain ⟨⟨rfl, rfl⟩, rfl⟩ := h7
      by_cases hb2 : brw b (wr c) (z, w') = true
      · rw [if_pos hb2] at h6
        simp only [Option.bind_eq_some_iff, Prod.exists] at h6
        obtain ⟨y3, w3, E4, h8, d, h9, e⟩ := h6
        simp only [Option.some.injEq, Prod.mk.injEq] at e
        obtain ⟨⟨rfl, rfl⟩, rfl⟩ := e
        refine ⟨Z2, _, Fs2, (y3, w3), _, q.st, h8, fun u3 H3 Z3 F3 Fs3 q3 => ?_⟩
        obtain ⟨_, kr3⟩ := q.keep q3.ch (brw_ok hb2)
        refine hr' _ _ _ u u3 _ _ _ _ _ H3 Q q3.st.sub kr3 q3.val h9 fun t3 ht3 => ?_
        refine k t3 H3 Z3 [] Fs3 ((((p.trans q).trans q3).plain ht3).mono fun i hi => ?_)
        simp only [wr, List.mem_append] at hi ⊢
        rcases hi with (hi | hi) | hi
        · exact .inl (.inl hi)
        · exact .inl (.inr hi)
        · exact .inr (.inr hi)
      · rw [if_neg hb2] at h6
        cases h6
  · rw [if_neg hb1] at h1
    cases h1
theorem sx_chain {o o' : Op2} {op op' : CmpOp} {r r' : R2} (ho : OpR X (compareOp op) r) (ho' : OpR X (compareOp op') r') (hr : Ok2 B (app2 o) r) (hr' : Ok2 B (app2 o') r') (ha : PE X ea (SE B a)) (hb : PE X eb (SE B b)) (hc : PE X ec (SE B c)) (hp : pureE b = true := by rfl) (hm : lastMarks [op, op'] [eb, ec] = false := by with_unfolding_all rfl) :
    PE X (.Compare ea [op, op'] [eb, ec] pos) (SE B (.and (.op2 o a b) (.op2 o' b c))) := (pe_chain ho ho' ha hb hc hm).imp fun _ _ _ h => se_chain hp hr hr' h
theorem sp_chain {o o' : Op2} {op op' : CmpOp} {r r' : R2} (ho : OpR X (compareOp op) r) (ho' : OpR X (compareOp op') r') (hr : Ok2 B (app2 o) r) (hr' : Ok2 B (app2 o') r') (ha : PE X ea (SE B a)) (hb : PE X eb (SE B b)) (hc : PE X ec (SE B c)) (hp : pureE b = true := by rfl) (hm : lastMarks [op, op'] [eb, ec] = false := by with_unfolding_all rfl) :
    PT X (.Compare ea [op, op'] [eb, ec] pos) (ST B (.and (.op2 o a b) (.op2 o' b c))) := (pt_chain ho ho' ha hb hc hm).imp fun σ H Q h => by
  obtain ⟨Z, E, Fs, k, w, E', st, he, kk⟩ := h
  exact se_chain hp hr hr' (Q := fun x H' => ∃ k, x = .bl k ∧ Q k H') ⟨Z, E, Fs, _, E', st, he, fun v H' Z' Fd Fs' p => ⟨k, p.val.1, kk H' Z' Fs' p.st p.ch⟩⟩
abbrev sx_chlele (ha : PE X ea (SE B a)) (hb : PE X eb (SE B b)) (hc : PE X ec (SE B c)) (hp : pureE b = true := by rfl) (hm : lastMarks [.LtE, .LtE] [eb, ec] = false := by with_unfolding_all rfl) : PE X (.Compare ea [.LtE, .LtE] [eb, ec] pos) (SE B (.and (.op2 .le a b) (.op2 .le b c))) := sx_chain op_le op_le ok_le ok_le ha hb hc hp hm
abbrev sp_chlele (ha : PE X ea (SE B a)) (hb : PE X eb (SE B b)) (hc : PE X ec (SE B c)) (hp : pureE b = true := by rfl) (hm : lastMarks [.LtE, .LtE] [eb, ec] = false := by with_unfolding_all rfl) : PT X (.Compare ea [.LtE, .LtE] [eb, ec] pos) (ST B (.and (.op2 .le a b) (.op2 .le b c))) := sp_chain op_le op_le ok_le ok_le ha hb hc hp hm
abbrev sx_chlelt (ha : PE X ea (SE B a)) (hb : PE X eb (SE B b)) (hc : PE X ec (SE B c)) (hp : pureE b = true := by rfl) (hm : lastMarks [.LtE, .Lt] [eb, ec] = false := by with_unfolding_all rfl) : PE X (.Compare ea [.LtE, .Lt] [eb, ec] pos) (SE B (.and (.op2 .le a b) (.op2 .lt b c))) := sx_chain op_le op_lt ok_le ok_lt ha hb hc hp hm
abbrev sp_chlelt (ha : PE X ea (SE B a)) (hb : PE X eb (SE B b)) (hc : PE X ec (SE B c)) (hp : pureE b = true := by rfl) (hm : lastMarks [.LtE, .Lt] [eb, ec] = false := by with_unfolding_all rfl) : PT X (.Compare ea [.LtE, .Lt] [eb, ec] pos) (ST B (.and (.op2 .le a b) (.op2 .lt b c))) := sp_chain op_le op_lt ok_le ok_lt ha hb hc hp hm
/-! ### is True, is False -/
def isBV (k : Bool) : V → Bool
  | .bl c => c == k
  | _ => false
def rIsB (k : Bool) (neg : Bool) : R2 := fun x y H Q => y = .bl k ∧ Q (.bl (if neg then !isBV k x else isBV k x)) H
theorem isB_val {x : V} {v : Value} {k : Bool} (rx : RelV x v) : plainIs v (.bool k) = true ∧ (v == Value.bool k) = isBV k x := by
  cases x with
  | ref a => cases rx; exact ⟨rfl, rfl⟩
  | non => cases rx; exact ⟨rfl, rfl⟩
  | bl b => cases rx; exact ⟨rfl, by cases b <;> cases k <;> rfl⟩
  | int i => obtain ⟨t, rfl⟩ := rx; exact ⟨rfl, rfl⟩
  | str x => obtain ⟨t, rfl⟩ := rx; exact ⟨rfl, rfl⟩
  | byt x => obtain ⟨t, rfl⟩ := rx; exact ⟨rfl, rfl⟩
  | flt x => obtain ⟨t, rfl⟩ := rx; exact ⟨rfl, rfl⟩
  | ty n => cases rx; exact ⟨rfl, rfl⟩
theorem op_isB {k : Bool} : OpR X (compareOp .Is) (rIsB k false) := by
  intro pins s σ H x y v u Q I rx ry h
  obtain ⟨rfl, q⟩ := h
  cases ry
  obtain ⟨h1, h2⟩ := isB_val (k := k) rx
  exact wpAny_is_plain h1 (by rw [h2]; exact fin_bl I q rfl)
theorem op_isNB {k : Bool} : OpR X (compareOp .IsNot) (rIsB k true) := by
  intro pins s σ H x y v u Q I rx ry h
  obtain ⟨rfl, q⟩ := h
  cases ry
  obtain ⟨h1, h2⟩ := isB_val (k := k) rx
  exact wpAny_isNot_plain h1 (by rw [h2]; exact fin_bl I q rfl)
theorem ok_isB {k : Bool} : Ok1 B (app1 (.isB k)) (fun x H Q => Q (.bl (isBV k x)) H) := by
  intro d d' v w F Z H Q hs r he kk
  have e : d' = .bl (isBV k v) := by
    cases d with
    | non => rw [r.1]; simp [app1] at he; exact he.symm
    | bl _ => rw [r.1]; simp [app1] at he; exact he.symm
    | int _ => rw [r.1]; simp [app1] at he; exact he.symm
    | str _ => rw [r.1.1]; simp [app1] at he; exact he.symm
    | fn _ => simp [app1] at he
    | scr _ => simp [app1] at he
    | tup _ => obtain ⟨a, _, e, _⟩ := r; rw [e]; simp [app1] at he; exact he.symm
    | lst _ => obtain ⟨a, _, _, e, _⟩ := r; rw [e]; simp [app1] at he; exact he.symm
    | dic _ _ => obtain ⟨a, _, e, _⟩ := r; rw [e]; simp [app1] at he; exact he.symm
  subst e
  exact kk _ fun w => ⟨rfl, rfl⟩
theorem isB_op {k neg : Bool} {σ H Q} (h : SE B a σ H fun v H1 => Q (.bl (if neg then !isBV k v else isBV k v)) H1) : tOp (rIsB k neg) (SE B a) (fun σ H Q => Q (.bl k) H) σ H Q := by
  obtain ⟨Z, E, Fs, x, E', st, he, kk⟩ := h
  exact ⟨Z, E, Fs, x, E', st, he, fun v H1 Z1 F1 Fs1 p => ⟨rfl, kk v H1 Z1 F1 Fs1 p⟩⟩
theorem se_nisB {k : Bool} {σ H Q} (h : SE B (.op1 .not (.op1 (.isB k) a)) σ H Q) : SE B a σ H fun v H1 => Q (.bl (!isBV k v)) H1 := by
  have h1 := se1 (r := fun v H Q => ∃ k, v = .bl k ∧ Q (.bl (!k)) H) (fun d d' v w F Z H Q hs r he kk => by
    cases d <;> simp [app1] at he
    subst he
    exact ⟨_, r.1, kk _ fun w => ⟨rfl, rfl⟩⟩) h
  have h2 := se1 ok_isB h1
  obtain ⟨Z, E, Fs, x, E', st, he, kk⟩ := h2
  refine ⟨Z, E, Fs, x, E', st, he, fun v H1 Z1 F1 Fs1 p => ?_⟩
  obtain ⟨k', e, q⟩ := kk v H1 Z1 F1 Fs1 p
  simp only [V.bl.injEq] at e
  rw [e]
  exact q
theorem sx_isB {k : Bool} {j} (ha : PE X ea (SE B a)) : PE X (.Compare ea [.Is] [.Constant (.bool k) j p2] pos) (SE B (.op1 (.isB k) a)) :=
  (pe_cmpR op_isB ha pe_bl (by rfl)).imp fun _ _ _ h => isB_op (neg := false) (se1 ok_isB h)
theorem sx_isNB {k : Bool} {j} (ha : PE X ea (SE B a)) : PE X (.Compare ea [.IsNot] [.Constant (.bool k) j p2] pos) (SE B (.op1 .not (.op1 (.isB k) a))) :=
  (pe_cmpR op_isNB ha pe_bl (by rfl)).imp fun _ _ _ h => isB_op (neg := true) (se_nisB h)
theorem sp_isB {k : Bool} {j} (ha : PE X ea (SE B a)) : PT X (.Compare ea [.Is] [.Constant (.bool k) j p2] pos) (ST B (.op1 (.isB k) a)) :=
  (pt_cmpR op_isB ha pe_bl (by rfl)).imp fun σ H Q h => by
    obtain ⟨Z, E, Fs, kk, w, E', st, he, q⟩ := h
    exact isB_op (neg := false) (Q := fun x H' => ∃ k, x = .bl k ∧ Q k H') (se1 (Q := fun x H' => ∃ k, x = .bl k ∧ Q k H') ok_isB ⟨Z, E, Fs, _, E', st, he, fun v H' Z' Fd Fs' p => ⟨kk, p.val.1, q H' Z' Fs' p.st p.ch⟩⟩)
theorem sp_isNB {k : Bool} {j} (ha : PE X ea (SE B a)) : PT X (.Compare ea [.IsNot] [.Constant (.bool k) j p2] pos) (ST B (.op1 .not (.op1 (.isB k) a))) :=
  (pt_cmpR op_isNB ha pe_bl (by rfl)).imp fun σ H Q h => by
    obtain ⟨Z, E, Fs, kk, w, E', st, he, q⟩ := h
    exact isB_op (neg := true) (Q := fun x H' => ∃ k, x = .bl k ∧ Q k H') (se_nisB (Q := fun x H' => ∃ k, x = .bl k ∧ Q k H') ⟨Z, E, Fs, _, E', st, he, fun v H' Z' Fd Fs' p => ⟨kk, p.val.1, q H' Z' Fs' p.st p.ch⟩⟩)
end
end BS

set_option Elab.async false
set_option linter.all false
set_option maxRecDepth 100000
set_option maxHeartbeats 2000000
namespace BS
open PySem PySem.Spec PyProof.Rows L2
section
variable {X : Cx} {B : Bk} {pos p apos : Pos} {i : Nat} {x : Str} {es : List Expr} {as : List Ex}
theorem ev_mut {Φ : Phi} {m : Mt} {E E' : En} {v : Val} (h : ev Φ (.mut m i as) E = some (v, E')) : ∃ ys0 w0 xs E1 d w d' r, E[i]? = some (some (.lst ys0, w0)) ∧ evs Φ as E = some (xs, E1) ∧ E1[i]? = some (some (d, w)) ∧ w ≠ .sh ∧ mutD m (ds xs) d = some (d', r) ∧ v = vl r (kid w) ∧
    E' = E1.set i (some (d', if allDeep xs = true then w else .top)) := by
  simp only [ev] at h
  cases hE : E[i]? with
  | none => rw [hE] at h; cases h
  | some o =>
    rw [hE] at h
    cases o with
    | none => cases h
    | some z =>
      obtain ⟨d0, w0⟩ := z
      cases d0 with
      | lst ys0 =>
        simp only [Option.bind_eq_bind, Option.bind_eq_some_iff, Prod.exists] at h
        obtain ⟨xs, E1, h1, h2⟩ := h
        unfold chg at h2
        cases hd : E1[i]? with
        | none => rw [hd] at h2; cases h2
        | some od =>
          rw [hd] at h2
          cases od with
          | none => cases h2
          | some dw =>
            obtain ⟨d, w⟩ := dw
            simp only at h2
            split at h2
            · cases h2
            · rename_i hw
              simp only [List.isEmpty_nil, if_true, Option.bind_eq_bind, Option.bind_eq_some_iff, Prod.exists] at h2
              obtain ⟨d', r, h6, h7⟩ := h2
              simp only [Option.some.injEq, Prod.mk.injEq] at h7
              obtain ⟨rfl, rfl⟩ := h7
              exact ⟨ys0, w0, xs, E1, d, w, d', r, rfl, h1, hd, hw, h6, rfl, rfl⟩
      | _ => cases h
/-- the list that a slot holds, as a thing of its type -/
theorem Stt.lst_ty {K : PySem.W.Frag} {FA : Nat → Addr → Prop} {Z H : Hp} {E : En} {Fs : List (List Addr)} {σ : Sl} {ys : List D} {w : Ow} (st : Stt K FA Z H E σ Fs) (e : E[i]? = some (some (.lst ys, w))) :
    ∃ q, σ[i]? = some (some (.ref q)) ∧ ∃ vs, SqL K H q vs := by
  obtain ⟨v, hv, ro⟩ := st.re.get e
  cases v with
  | none => exact ro.elim
  | some v =>
    obtain ⟨q, vs, G, rfl, hq, hr, ef⟩ := (show R K FA Z H w (.lst ys) v (Fs.getD i []) from ro)
    exact ⟨q, hv, vs, hq.sub st.sub⟩
/-- behind a change of a slot's list, an answer that is none -/
theorem Pe.mut {K : PySem.W.Frag} {FA : Nat → Addr → Prop} {w : List Nat} {Z H Z' H' : Hp} {E E' : En} {Fs Fs' : List (List Addr)} {σ : Sl} {m : Mt} (s : Stt K FA Z' H' E' σ Fs') (c : Chg w Z H E Fs Z' H' E' Fs') : Pe K FA w (pr (.mut m i as)) Z H E Fs σ (.non, .deep) E' .non Z' H' [] Fs' :=
  ⟨s, c, ⟨rfl, rfl⟩, fun _ => ⟨by simpa using s.nd, fun _ h => (by cases h), fun _ h => (by cases h)⟩, fun _ _ z => by simp [pr] at z⟩
/-- what a list's own cell stands apart from -/
theorem Pes.own {K : PySem.W.Frag} {FA : Nat → Addr → Prop} {w : List Nat} {Z H Z1 H1 : Hp} {E E1 : En} {Fs Fs1 Fds : List (List Addr)} {σ : Sl} {xs : List Val} {us : List V} {q : Addr} {G : List Addr} (pb : Pes K FA w Z H E Fs σ xs E1 us Z1 H1 Fds Fs1) (ef : Fs1.getD i [] = q :: G) :
    (q ∉ G ∧ q ∉ Fds.flatten) ∧ ∀ a ∈ G ++ Fds.flatten, Z1 a = none := by
  have nself : (q :: G).Nodup ∧ ∀ a ∈ q :: G, a ∈ Fs1.flatten := by
    have sp := self_perm (Fs := Fs1) (i := i)
    rw [ef] at sp
    exact ⟨(List.nodup_append.mp (sp.nodup_iff.mp pb.st.nd)).1, fun a ha => mem_flat (i := i) (by rw [ef]; exact ha)⟩
  refine ⟨⟨(List.nodup_cons.mp nself.1).1, fun m => (List.nodup_append.mp pb.nd).2.2 q m q (nself.2 q List.mem_cons_self) rfl⟩, fun a ha => ?_⟩
  rcases List.mem_append.mp ha with m | m
  · exact pb.st.zf a (nself.2 a (List.mem_cons_of_mem _ m))
  · exact pb.zf a m
theorem Rs_split {K : PySem.W.Frag} {FA : Nat → Addr → Prop} {Z H : Hp} {w : Ow} : ∀ {xs ys : List D} {vs : List V} {A : List Addr}, Rs K FA Z H w (xs ++ ys) vs A → ∃ vs1 vs2 A1 A2, vs = vs1 ++ vs2 ∧ A = A1 ++ A2 ∧ Rs K FA Z H w xs vs1 A1 ∧ Rs K FA Z H w ys vs2 A2
  | [], ys, vs, A, h => ⟨[], vs, [], A, rfl, rfl, ⟨rfl, rfl⟩, h⟩
  | d :: xs, ys, vs, A, h => by
    obtain ⟨v, us', A', B', rfl, r1, r2, rfl⟩ := h
    obtain ⟨vs1, vs2, A1, A2, rfl, rfl, h1, h2⟩ := Rs_split r2
    exact ⟨v :: vs1, vs2, A' ++ A1, A2, rfl, by rw [List.append_assoc], ⟨v, vs1, A', A1, rfl, r1, h1, rfl⟩, h2⟩
variable {e1 : Expr} {a1 : Ex}
theorem sx_append (hN : X.N[i]? = some x) (hv : Vis X.env.scope x) (ha : PA X (e1 :: es) (SXs B as)) (hK : X.K = B.K := by rfl) (hd : (x == ("__debug__" : Str)) = false := by decide) (hcd : (x == ("__classdict__" : Str)) = false := by decide)
    (hbase : attributeBase (.Name x p) "append" X.env (eval (.Name x p) X.env) = eval (.Name x p) X.env := by rfl)
    (hfew : ((backTo pos (starEach (e1 :: es) X.env)).all (fun x => !x.1) && (backToKw pos (keywordEach [] X.env)).all (fun x => x.1.isSome)
      && decide ((e1 :: es).length + ([] : List Keyword).length + (if ([] : List Keyword).isEmpty then 0 else 1) < 30)) = true := by rfl)
    (hline : (apos.endLine == pos.line) = true := by rfl) (hs : starEach (e1 :: es) X.env = (false, eval e1 X.env) :: starEach es X.env := by rfl) (hplain : (backTo pos (starEach es X.env)).any (·.1) = false := by rfl) :
    PE X (.Call (.Attribute (.Name x p) "append" apos) (e1 :: es) [] pos) (SE B (.mut .append i as)) := by
  refine (pe_bm PySem.F.plainAttrs_list PySem.F.slot_list_append PySem.F.type_list_append mt_append (pe_var hN hv hd hcd) ha hbase hfew hline hs hplain).imp fun σ H Q h => ?_
  obtain ⟨Z, E, Fs, x, E', st, he, k⟩ := h
  obtain ⟨ys0, w0, xs, E1, d, w, d', r, h0, h1, h2, hw, h3, rfl, rfl⟩ := ev_mut he
  obtain ⟨q, hq, vs0, hsq⟩ := st.lst_ty h0
  refine ⟨.ref q, hq, .inl ⟨rfl, vs0, hK ▸ hsq⟩, Z, E, Fs, xs, E1, st, h1, fun us H1 Z1 Fds Fs1 pb => ?_⟩
  cases d with
  | lst ys =>
    obtain ⟨q', vs, G, hσ, hH, hr, ef⟩ := pb.st.lst_at h2 hw
    rw [hq] at hσ
    cases hσ
    obtain ⟨hqn, zG⟩ := pb.own ef
    match xs, h3 with
    | [x1], h3 =>
      simp only [ds, mutD] at h3
      split at h3
      · rename_i hl
        simp only [Option.some.injEq, Prod.mk.injEq] at h3
        obtain ⟨rfl, rfl⟩ := h3
        obtain ⟨u1, rfl⟩ : ∃ u1, us = [u1] := by
          have := RL.length pb.val
          match us, this with
          | [u1], _ => exact ⟨u1, rfl⟩
        · skip
          obtain ⟨Z3, Fs3, s3, c3⟩ := pb.change (o := .lst (vs ++ [u1])) (own := allDeep [x1]) (w1 := w) (d' := .lst (ys ++ [x1.1])) hq ef (by rw [hH]; exact fun z => by cases z) rfl rfl
            (list_mk hw hr pb.val rfl hqn zG fun {Zz Hz w A C} ra rc => ⟨A ++ C, [], Rs_app ra rc, by simp⟩) hw
          refine ⟨q, vs, u1, rfl, rfl, hH, by rw [Rs_len hr]; exact hl, ?_⟩
          have e : (vl D.non (kid w)) = (.non, .deep) := rfl
          rw [e] at k
          exact k _ _ Z3 [] Fs3 (Pe.mut s3 c3)
      · cases h3
    | [], h3 => simp [ds, mutD] at h3
    | _ :: _ :: _, h3 => simp [ds, mutD] at h3
  | _ => cases xs with
    | nil => simp [ds, mutD] at h3
    | cons a t => cases t <;> simp [ds, mutD] at h3
end
end BS

set_option Elab.async false
set_option linter.all false
set_option maxRecDepth 100000
set_option maxHeartbeats 2000000
namespace BS
open PySem PySem.Spec PyProof.Rows L2
/-! ### written dicts -/
def trsOf (B : Bk) : List Ex → List (TE × TE)
  | k :: v :: r => (SE B k, SE B v) :: trsOf B r
  | _ => []
def pairV : List V → List (V × V)
  | k :: v :: r => (k, v) :: pairV r
  | _ => []
section
variable {X : Cx} {B : Bk} {pos p : Pos}
theorem tPairs_of : ∀ (n : Nat) {es : List Ex} {σ H} {Q : List (V × V) → Hp → Prop}, es.length = 2 * n → SXs B es σ H (fun vs H' => Q (pairV vs) H') → tPairs (trsOf B es) σ H Q
  | 0, es, σ, H, Q, hl, h => by
    have : es = [] := List.length_eq_zero_iff.mp hl
    subst this
    obtain ⟨Z, E, Fs, xs, E', st, he, k⟩ := h
    simp only [evs, Option.some.injEq, Prod.mk.injEq] at he
    obtain ⟨rfl, rfl⟩ := he
    exact k [] H Z [] Fs ⟨st, Chg.refl _ _ _ _ _, trivial, by simpa using st.nd, fun _ m => (by simp at m), fun _ m => (by simp at m)⟩
  | n + 1, a :: b :: r, σ, H, Q, hl, h => by
    obtain ⟨Z, E, Fs, xs, E', st, he, k⟩ := h
    obtain ⟨x, E1, ys, h1, h2, rfl⟩ := evs_cons he
    obtain ⟨y, E2, zs, h3, h4, rfl⟩ := evs_cons h2
    refine se_x ⟨Z, E, Fs, x, E1, st, h1, fun v H1 Z1 Fd Fs1 p => ?_⟩
    refine se_x ⟨Z1, _, Fs1, y, E2, p.st, h3, fun u H2 Z2 Fd2 Fs2 p2 => ?_⟩
    refine tPairs_of n (by simp at hl; omega) ⟨Z2, _, Fs2, zs, E', p2.st, h4, fun vs H3 Z3 Fds Fs3 q => ?_⟩
    exact k (v :: u :: vs) H3 Z3 (Fd :: Fd2 :: Fds) Fs3 (p.cons (p2.cons q))
  | n + 1, [], _, _, _, hl, _ => by simp at hl
  | n + 1, [_], _, _, _, hl, _ => by simp at hl; omega
variable {K : PySem.W.Frag} {FA : Nat → Addr → Prop} {Z Z' H H' : Hp}
theorem RK_of : ∀ (n : Nat) {l : List D} {kvs : List (D × D)} {ks : List Key} {w : Ow} {vs : List V} {F : List Addr}, l.length = 2 * n → Rs K FA Z H w l vs F → pairUp l = some kvs → keyL (kvs.map (·.1)) = some ks →
    ∃ kv : List (Key × V), pairV vs = kv.map (fun kv => (kV kv.1, kv.2)) ∧ kv.map (·.1) = ks ∧ RK K FA Z H w kvs kv F
  | 0, l, kvs, ks, w, vs, F, hl, r, hp, hk => by
    have : l = [] := List.length_eq_zero_iff.mp hl
    subst this
    simp only [pairUp, Option.some.injEq] at hp
    subst hp
    simp only [List.map_nil, keyL, Option.some.injEq] at hk
    subst hk
    obtain ⟨rfl, rfl⟩ := r
    exact ⟨[], rfl, rfl, rfl, rfl⟩
  | n + 1, a :: b :: r, kvs, ks, w, vs, F, hl, hr, hp, hk => by
    obtain ⟨v, us, A, B, rfl, r1, ⟨u, us2, A2, B2, rfl, r2, r3, rfl⟩, rfl⟩ := hr
    simp only [pairUp, Option.map_eq_some_iff] at hp
    obtain ⟨kvs', hp, rfl⟩ := hp
    simp only [List.map_cons, keyL] at hk
    cases e1 : keyD a with
    | none => rw [e1] at hk; simp at hk
    | some k =>
      cases e2 : keyL (kvs'.map (·.1)) with
      | none => rw [e1, e2] at hk; simp at hk
      | some ks' =>
        rw [e1, e2] at hk
        simp only [Option.some.injEq] at hk
        subst hk
        obtain ⟨kv, g1, g2, g3⟩ := RK_of n (by simp at hl; omega) r3 hp e2
        have hv : v = kV k ∧ A = [] := by
          cases a <;> simp only [keyD, Option.some.injEq, reduceCtorEq] at e1
          · subst e1; exact ⟨r1.1, r1.2⟩
          · subst e1; exact ⟨r1.1.1, r1.2⟩
        obtain ⟨rfl, rfl⟩ := hv
        exact ⟨(k, u) :: kv, by simp [pairV, g1], by simp [g2], k, u, kv, A2, B2, rfl, e1, r2, g3, rfl⟩
  | n + 1, [], _, _, _, _, _, hl, _, _, _ => by simp at hl
  | n + 1, [_], _, _, _, _, _, hl, _, _, _ => by simp at hl; omega
theorem mergeK_nd : ∀ (more acc : List (Key × V)), ((acc ++ more).map (·.1)).Nodup → mergeK acc more = acc ++ more
  | [], acc, _ => by simp [mergeK]
  | (k, v) :: more, acc, h => by
    have e : putK acc k v = acc ++ [(k, v)] := by
      unfold putK
      rw [if_neg]
      intro z
      obtain ⟨y, hy, e⟩ := List.any_eq_true.mp z
      have e := of_decide_eq_true e
      rw [List.map_append, List.map_cons] at h
      exact (List.nodup_append.mp h).2.2 y.1 (List.mem_map_of_mem hy) k (by simp) e
    show mergeK (putK acc k v) more = _
    rw [e, mergeK_nd more (acc ++ [(k, v)]) (by simpa using h)]
    simp
theorem pairUp_len : ∀ (n : Nat) {l : List D} {kvs : List (D × D)}, l.length ≤ n → pairUp l = some kvs → l.length = 2 * kvs.length
  | _, [], kvs, _, h => by simp only [pairUp, Option.some.injEq] at h; subst h; rfl
  | n + 1, a :: b :: r, kvs, hl, h => by
    simp only [pairUp, Option.map_eq_some_iff] at h
    obtain ⟨kvs', h, rfl⟩ := h
    have := pairUp_len n (by simp at hl; omega) h
    simp
    omega
  | _, [_], kvs, _, h => by simp [pairUp] at h
/-- a cell that was laid ahead of all this, with another content -/
theorem Pes.over {w : List Nat} {E E' : En} {Fs Fs' Fds : List (List Addr)} {σ : Sl} {xs : List Val} {vs : List V} {q : Addr} {o o' : HO} (st : Stt K FA Z H E σ Fs) (hq : H q = none) (p : Pes K FA w Z (upd H q o) E Fs σ xs E' vs Z' H' Fds Fs') :
    H' q = some o ∧ Pes K FA w Z H E Fs σ xs E' vs Z' (upd H' q o') Fds Fs' ∧ q ∉ Fs'.flatten ∧ q ∉ Fds.flatten ∧ Z' q = none := by
  have n0 : q ∉ Fs.flatten := fun m => st.re.there m hq
  have up : ∀ a, upd H q o a = none → H a = none := fun a h => by
    by_cases e : a = q
    · rw [e]; exact hq
    · rwa [upd_ne e] at h
  have uq : upd H q o q ≠ none := by rw [upd_same]; exact fun z => by cases z
  have n1 : q ∉ Fs'.flatten := fun m => by
    rcases p.ch.flat m with z | z
    · exact n0 z
    · exact uq z
  have n2 : q ∉ Fds.flatten := fun m => by
    rcases p.fd q m with z | z
    · exact uq z
    · exact n0 z.flat
  have zq : Z' q = none := by
    cases e : Z' q with
    | none => rfl
    | some u =>
      rcases p.ch.zn q u e with z | z | z
      · rw [st.sub.none hq] at z; cases z
      · exact absurd z n0
      · exact absurd z uq
  refine ⟨p.ch.frame q o upd_same fun z => n0 z.flat, ⟨⟨fun a u e => ?_, ?_, p.st.nd, p.st.zf⟩, ⟨p.ch.le, fun a u e => ?_, fun i a h => ?_, fun a u h n => ?_, fun a h => ?_, p.ch.same⟩, ?_, p.nd, p.zf, fun a h => ?_⟩, n1, n2, zq⟩
  · have ne : a ≠ q := fun z => by rw [z, zq] at e; cases e
    rw [upd_ne ne]
    exact p.st.sub a u e
  · exact RE.keep (Le.refl _) (fun a ha => upd_ne fun z => n1 (z ▸ ha)) p.st.re
  · exact (p.ch.zn a u e).imp id (Or.imp id (up a))
  · exact (p.ch.fr i a h).imp id (Or.imp (up a) id)
  · have ne : a ≠ q := fun z => by rw [z, hq] at h; cases h
    rw [upd_ne ne]
    exact p.ch.frame a u (by rw [upd_ne ne]; exact h) n
  · by_cases e : a = q
    · rw [e, upd_same]; exact fun z => by cases z
    · rw [upd_ne e]; exact p.ch.there a (by rw [upd_ne e]; exact h)
  · exact RE.keep (Le.refl _) (fun a ha => upd_ne fun z => n2 (z ▸ ha)) p.val
  · exact (p.fd a h).imp (up a) id
/-- keys and values, as they are written -/
theorem pd_nil : PPs X pos [] [] (trsOf B []) := pps_nil
theorem pd_cons {k v : Expr} {a b : Ex} {ks : List (Option Expr)} {vs : List Expr} {r : List Ex} (hk : PE X k (SE B a)) (hv : PE X v (SE B b)) (hr : PPs X pos ks vs (trsOf B r)) : PPs X pos (some k :: ks) (v :: vs) (trsOf B (a :: b :: r)) := pps_cons hk hv hr
theorem sx_dct {keys : List (Option Expr)} {values : List Expr} {es : List Ex} (h : PPs X pos keys values (trsOf B es)) (hall : keys.all (·.isSome) = true := by rfl) (hl : keys.length = values.length := by rfl) (h0 : keys ≠ [] := by exact fun z => by cases z) (h15 : keys.length ≤ 15 := by decide) : PE X (.Dict keys values pos) (SE B (.dct es)) := by
  refine (pe_disp h hall hl h0 h15).imp fun σ H Q h => ?_
  obtain ⟨Z, E, Fs, x, E', st, he, k⟩ := h
  simp only [ev, Option.bind_eq_bind, Option.bind_eq_some_iff, Prod.exists] at he
  obtain ⟨xs, E1, h1, kvs, h2, h3⟩ := he
  split at h3
  · rename_i hok
    simp only [Option.some.injEq, Prod.mk.injEq] at h3
    obtain ⟨rfl, rfl⟩ := h3
    unfold keysOk at hok
    cases e : keyL (kvs.map (·.1)) with
    | none => rw [e] at hok; cases hok
    | some ks =>
      rw [e] at hok
      simp only [Bool.and_eq_true, decide_eq_true_eq] at hok
      intro q hq
      have lx := pairUp_len _ (Nat.le_refl _) h2
      have ld : ∀ l : List Val, (ds l).length = l.length := fun l => by
        induction l with
        | nil => rfl
        | cons a l ih => simp [ds, ih]
      have le : ∀ (l : List Ex) (E E' : En) (xs : List Val), evs B.Φ l E = some (xs, E') → xs.length = l.length := fun l => by
        induction l with
        | nil => intro E E' xs h; simp only [evs, Option.some.injEq, Prod.mk.injEq] at h; rw [← h.1]; rfl
        | cons c l ih => intro E E' xs h; obtain ⟨_, _, ys, _, h2, rfl⟩ := evs_cons h; simp [ih _ _ _ h2]
      refine tPairs_of kvs.length (by rw [← le _ _ _ _ h1, ← ld]; exact lx) ⟨Z, E, Fs, xs, E1, st.laid hq, h1, fun vs H2 Z2 Fds Fs2 p => ?_⟩
      cases ad : allDeep xs with
      | true =>
        obtain ⟨kv, g1, g2, g3⟩ := RK_of kvs.length lx (RL_deep p.val ad) h2 e
        obtain ⟨c1, c2, c3, c4, c5⟩ := p.over (o' := .dK (mergeK [] kv)) st hq
        have em : mergeK [] kv = kv := by rw [mergeK_nd kv [] (by rw [List.nil_append, g2]; exact hok.1)]; rfl
        have lk : kv.length ≤ 15 := by rw [RK_len g3]; exact hok.2
        refine ⟨c1, kv, g1, lk, ?_⟩
        rw [ad] at k
        refine k _ _ Z2 (q :: Fds.flatten) Fs2 ⟨c2.st, c2.ch, ⟨q, Fds.flatten, rfl, .inl ⟨rfl, kv, ?_, by rw [g2]; exact hok.1, RK_keep (Le.refl _) _ (fun a ha => upd_ne fun z => c4 (z ▸ ha)) g3⟩, rfl⟩, fun _ => ⟨?_, fun a ha => ?_, fun a ha => ?_⟩, fun _ _ z => by simp [pr] at z⟩
        · show upd H2 q _ q = some _
          rw [upd_same, em]
        · refine List.nodup_cons.mpr ⟨fun m => ?_, c2.nd⟩
          rcases List.mem_append.mp m with m | m
          · exact c4 m
          · exact c3 m
        · rcases List.mem_cons.mp ha with rfl | ha
          · exact c5
          · exact c2.zf a ha
        · rcases List.mem_cons.mp ha with rfl | ha
          · exact .inl hq
          · exact c2.fd a ha
      | false =>
        obtain ⟨c1, c2, c3, c4, c5⟩ := p.over (o' := .dK []) st hq
        obtain ⟨s2, ch2, r2⟩ := p.shared
        obtain ⟨kv, g1, g2, g3⟩ := RK_of kvs.length lx r2 h2 e
        obtain ⟨d1, d2, d3, d4, d5⟩ := p.over (o' := .dK (mergeK [] kv)) st hq
        have em : mergeK [] kv = kv := by rw [mergeK_nd kv [] (by rw [List.nil_append, g2]; exact hok.1)]; rfl
        have lk : kv.length ≤ 15 := by rw [RK_len g3]; exact hok.2
        refine ⟨c1, kv, g1, lk, ?_⟩
        rw [ad] at k
        obtain ⟨s3, ch3, r3⟩ := d2.shared
        have zq : BS.zadd Z2 (upd H2 q (.dK (mergeK [] kv))) Fds.flatten q = none := by rw [zadd_out d4]; exact d5
        refine k _ _ (BS.zadd Z2 (upd H2 q (.dK (mergeK [] kv))) Fds.flatten) [q] Fs2 ⟨s3, ch3, ⟨q, [], rfl, .inl ⟨rfl, kv, ?_, by rw [g2]; exact hok.1, ?_⟩, rfl⟩, fun _ => ⟨?_, fun a ha => ?_, fun a ha => ?_⟩, fun _ _ z => by simp [pr] at z⟩
        · show upd H2 q _ q = some _
          rw [upd_same, em]
        · refine RK_keep (H := H2) (fun a u e => ?_) _ (fun _ m => by cases m) g3
          unfold BS.zadd at e ⊢
          by_cases m : a ∈ Fds.flatten
          · rw [if_pos m] at e ⊢
            have ne : a ≠ q := fun z => d4 (z ▸ m)
            rw [upd_ne ne]
            exact e
          · rw [if_neg m] at e ⊢
            exact e
        · exact List.nodup_cons.mpr ⟨d3, d2.st.nd⟩
        · rcases List.mem_cons.mp ha with rfl | ha
          · exact zq
          · cases ha
        · rcases List.mem_cons.mp ha with rfl | ha
          · exact .inl hq
          · cases ha
  · cases h3
/-! ### defs as values -/
theorem sx_fnv {x : Str} {g : Nat} {f : Addr} (hg : Gl X x) (hm : X.mg x = some (.ref f)) (hf : B.FA g f) (hd : (x == ("__debug__" : Str)) = false := by decide) : PE X (.Name x pos) (SE B (.glo (.fn g))) :=
  sx_glo (v := .ref f) hg hm rfl (fun _ _ => ⟨⟨f, rfl, hf⟩, rfl⟩) hd
variable {ef e : Expr} {f : Ex} {es : List Expr} {as : List Ex} {x : Str}
/-- all defs, by their addresses -/
def Alls (X : Cx) (B : Bk) (n : Nat) : Prop := ∀ g a, B.FA g a → ∃ fd ps, FnOk X.prog X.w X.K X.mg X.base CX0 n a fd ps (spV B.K B.FA (B.Φ g)) ∧ PySem.W.keepIn X.K (.ref a) = true ∧ Binds X.K fd ps []
theorem callv_se {σ H Q} (h : SE B (.callv f as) σ H Q) : SE B f σ H fun v H1 => ∃ g a, v = .ref a ∧ B.FA g a ∧ tCall (spV B.K B.FA (B.Φ g)) [] E0 (SAs B as) σ H1 Q := by
  obtain ⟨Z, E, Fs, x, E', st, he, k⟩ := h
  simp only [ev, Option.bind_eq_bind, Option.bind_eq_some_iff, Prod.exists] at he
  obtain ⟨yd, yw, E1, h1, h2⟩ := he
  cases yd with
  | fn g =>
    refine ⟨Z, E, Fs, (.fn g, yw), E1, st, h1, fun v H1 Z1 Fd Fs1 p => ?_⟩
    obtain ⟨⟨a, rfl, hf⟩, _⟩ := p.val
    refine ⟨g, a, rfl, hf, call_se ⟨Z1, E1, Fs1, x, E', p.st, ?_, fun v H' Z' Fd' Fs' q => ?_⟩⟩
    · simp only [ev, Option.bind_eq_bind, Option.bind_eq_some_iff, Prod.exists]
      simpa only [Option.bind_eq_bind, Option.bind_eq_some_iff, Prod.exists] using h2
    · exact k v H' Z' Fd' Fs' (p.trans q)
  | _ => cases h2
theorem sx_callv {n : Nat} (A : Alls X B n) (hr : Room n X.A) (hf : PE X ef (SE B f)) (ha : PA X (e :: es) (SAs B as)) (hE : eval (.Call ef (e :: es) [] pos) X.env = (do callWith pos (← eval ef X.env) [] (backTo pos (starEach (e :: es) X.env)) (backToKw pos (keywordEach [] X.env))) := by rfl)
    (he : starEach (e :: es) X.env = (false, eval e X.env) :: starEach es X.env := by rfl) (hpl : (backTo pos (starEach es X.env)).any (·.1) = false := by rfl) :
    PE X (.Call ef (e :: es) [] pos) (SE B (.callv f as)) := by
  refine ⟨fun pins s σ H Q I h => ?_⟩
  refine Call_ (thn (hf.run pins s σ H _ I (callv_se h)) fun u s1 ⟨v, H1, I1, r1, g, a, ev, hfa, q⟩ => ?_) hE
  subst ev
  cases r1
  obtain ⟨fd, ps, F, hk, hb⟩ := A g a hfa
  refine PySem.W.callWith_K (h₀ := X.base) I.ok.mod.kin hk (thn (ha.run pos pins s1 σ _ _ I1 q) fun us s2 ⟨vs, H2, I2, r, q⟩ => ⟨I2.kIn, ?_⟩) he hpl
  exact run_fn F hr hb .nil pass0 I2 r q
/-- .. of a local name -/
theorem sx_callvN {n : Nat} {i : Nat} (A : Alls X B n) (hr : Room n X.A) (hN : X.N[i]? = some x) (hv : Vis X.env.scope x) (ha : PA X (e :: es) (SAs B as)) (hd : (x == ("__debug__" : Str)) = false := by decide) (hcd : (x == ("__classdict__" : Str)) = false := by decide)
    (he : starEach (e :: es) X.env = (false, eval e X.env) :: starEach es X.env := by rfl) (hpl : (backTo pos (starEach es X.env)).any (·.1) = false := by rfl) :
    PE X (.Call (.Name x p) (e :: es) [] pos) (SE B (.callv (.var i) as)) := by
  refine ⟨fun pins s σ H Q I h => ?_⟩
  refine wpAny_Call_Name_kw (thn ((sx_var (pos := p) (B := B) hN hv hd hcd).run pins s σ H _ I (callv_se h)) fun u s1 ⟨v, H1, I1, r1, g, a, ev, hfa, q⟩ => ?_)
  subst ev
  cases r1
  obtain ⟨fd, ps, F, hk, hb⟩ := A g a hfa
  refine PySem.W.callWith_K (h₀ := X.base) I.ok.mod.kin hk (thn (ha.run pos pins s1 σ _ _ I1 q) fun us s2 ⟨vs, H2, I2, r, q⟩ => ⟨I2.kIn, ?_⟩) he hpl
  exact run_fn F hr hb .nil pass0 I2 r q
end
/-- the defs of a text -/
theorem alls_of {P : Program} {w : World} {K : PySem.W.Frag} {mg : Str → Option Value} {base : Heap} {tab : Nat → Option Def} {ts : Tss} {fr : List Str} {ci : List (Str × Int)} {cs : List (Str × Str)} {fdv : Nat → FuncData} {n : Nat} (T : Txt K mg ts fr ci cs fdv) (A : Oks P w K mg base tab ts fdv n)
    (hb : ∀ {x : Str} {st : Stmt} {ps : List Str} (i : Nat), ts[i]? = some (x, st, ps) → Binds K (fdv i) ps []) :
    ∀ g a, FAof K ts g a → ∃ fd ps, FnOk P w K mg base CX0 n a fd ps (spV K (FAof K ts) (call tab n g)) ∧ PySem.W.keepIn K (.ref a) = true ∧ Binds K fd ps [] := by
  rintro g a ⟨x, st, ps, h, rfl⟩
  exact ⟨fdv g, ps, A g h, (T.fn g h).kp, hb g h⟩
end BS

set_option Elab.async false
set_option linter.all false
set_option maxRecDepth 100000
set_option maxHeartbeats 2000000
namespace BS
open PySem PySem.Spec PyProof.Rows L2
section
variable {X : Cx} {B : Bk} {pos p : Pos} {ea eb ec : Expr} {a b c : Ex}
/-! ### a list times a number -/
theorem Rs_rep {K : PySem.W.Frag} {FA : Nat → Addr → Prop} {Z H : Hp} {w : Ow} {xs : List D} {vs : List V} (r : Rs K FA Z H w xs vs []) : ∀ n, Rs K FA Z H w (List.replicate n xs).flatten (List.replicate n vs).flatten []
  | 0 => ⟨rfl, rfl⟩
  | n + 1 => by
    rw [List.replicate_succ, List.replicate_succ, List.flatten_cons, List.flatten_cons]
    exact Rs_app r (Rs_rep r n)
theorem plains_rep {xs : List D} (h : plains xs = true) : ∀ n, plains (List.replicate n xs).flatten = true
  | 0 => rfl
  | n + 1 => by
    rw [List.replicate_succ, List.flatten_cons, plains_app, h, plains_rep h n]
    rfl
theorem sx_rep (ha : PE X ea (SE B a)) (hb : PE X eb (SE B b)) (hw : wr b = [] := by rfl) : PE X (.BinOp ea .Mult eb pos) (SE B (.rep a b)) := by
  refine (pe_op op_rep ha hb).imp fun σ H Q h => ?_
  obtain ⟨Z, E, Fs, x, E', st, he, k⟩ := h
  simp only [ev, Option.bind_eq_bind, Option.bind_eq_some_iff, Prod.exists] at he
  obtain ⟨xd, xw, E1, h1, yd, yw, E2, h2, h3⟩ := he
  cases xd with
  | lst xs =>
    cases yd with
    | int n =>
      simp only at h3
      split at h3
      · rename_i hc
        simp only [Option.some.injEq, Prod.mk.injEq] at h3
        obtain ⟨rfl, rfl⟩ := h3
        refine ⟨Z, E, Fs, (.lst xs, xw), E1, st, h1, fun v H1 Z1 F1 Fs1 p => ?_⟩
        refine ⟨Z1, E1, Fs1, (.int n, yw), E2, p.st, h2, fun u H2 Z2 F2 Fs2 q => ?_⟩
        obtain ⟨_, kr⟩ := p.keep q.ch (fun i b' _ => .inr (by rw [hw]; exact List.not_mem_nil))
        obtain ⟨p1, vs, G, rfl, hq, r, _⟩ := kr
        obtain ⟨e, rr⟩ := Rs_plain xs hc.1 r
        refine ⟨p1, n, vs, rfl, q.val.1, LAt.sub' q.st.sub hq, hc.2.1, hc.2.2.1, by rw [Rs_len r]; exact hc.2.2.2, fun t ht => ?_⟩
        have hp := plains_rep hc.1 n.toNat
        obtain ⟨Fd, pp⟩ := new_list (u := .deep) q.st (p.ch.trans q.ch) (Rs_rep (rr _ H2) n.toNat) ht (fun hpl => by rw [hp] at hpl; cases hpl)
        have en : newLst (List.replicate n.toNat xs).flatten .deep = (.lst (List.replicate n.toNat xs).flatten, .deep) := by simp [newLst]
        rw [en] at pp
        refine k _ _ Z2 Fd Fs2 ⟨pp.st, pp.ch.mono fun i hi => by simpa only [wr] using hi, pp.val, fun _ => ?_, fun _ _ z => (by simp [pr, isPl] at z)⟩
        obtain ⟨n1, n2, n3⟩ := pp.ex rfl
        exact ⟨n1, n2, fun z hz => (n3 z hz).imp id fun w => w.mono fun i hi => by simpa only [wr] using hi⟩
      · cases h3
    | _ => simp at h3
  | _ => simp at h3
end
end BS

set_option Elab.async false
set_option linter.all false
set_option maxRecDepth 100000
set_option maxHeartbeats 2000000
namespace BS
open PySem PySem.Spec PyProof.Rows L2
theorem hu65_of {A : PySem.Around} {k : Nat} (hr : L2.Room k A) : A.units + 65 < PySem.cLine := by
  have := hr.un
  omega
section
variable {K : PySem.W.Frag} {FA : Nat → Addr → Prop} {Z H : Hp}
theorem Rs_rev {w : Ow} : ∀ {xs : List D} {vs : List V} {F}, Rs K FA Z H w xs vs F → F = [] → Rs K FA Z H w xs.reverse vs.reverse []
  | [], _, _, h, _ => by
    obtain ⟨rfl, _⟩ := h
    exact ⟨rfl, rfl⟩
  | x :: xs, _, _, ⟨v, us, A, C, rfl, h1, h2, rfl⟩, e => by
    obtain ⟨rfl, rfl⟩ := List.append_eq_nil_iff.mp e
    rw [List.reverse_cons, List.reverse_cons]
    exact Rs_app (Rs_rev h2 rfl) ⟨v, [], [], [], rfl, h1, ⟨rfl, rfl⟩, rfl⟩
theorem plains_rev (xs : List D) : plains xs.reverse = plains xs := by
  induction xs with
  | nil => rfl
  | cons x xs ih => rw [List.reverse_cons, plains_app, ih]; simp [Bool.and_comm]
theorem Rs_ints : ∀ {xs : List D} {ns : List Int} {w vs F}, intsOf xs = some ns → Rs K FA Z H w xs vs F → vs = ns.map V.int
  | [], _, _, _, _, h, hr => by
    simp only [intsOf, Option.some.injEq] at h
    rw [← h, hr.1]
    rfl
  | x :: xs, ns, w, vs, F, h, ⟨v, us, A, C, e, h1, h2, _⟩ => by
    cases x with
    | int i =>
      simp only [intsOf, Option.map_eq_some_iff] at h
      obtain ⟨m, hm, rfl⟩ := h
      rw [e, h1.1, Rs_ints hm h2]
      rfl
    | _ => simp [intsOf] at h
theorem sumD_ints : ∀ {xs : List D} {n : Int}, sumD xs = some n → ∃ ns, intsOf xs = some ns ∧ ns.sum = n
  | [], n, h => by
    simp only [sumD, Option.some.injEq] at h
    exact ⟨[], rfl, h⟩
  | x :: xs, n, h => by
    cases x with
    | int i =>
      simp only [sumD, Option.map_eq_some_iff] at h
      obtain ⟨m, hm, rfl⟩ := h
      obtain ⟨ns, h1, h2⟩ := sumD_ints hm
      exact ⟨i :: ns, by simp [intsOf, h1], by rw [List.sum_cons, h2]⟩
    | _ => simp [sumD] at h
end
section
variable {X : Cx} {B : Bk} {pos p apos : Pos} {ea eb ec : Expr} {a b c : Ex}
/-! ### x[::-1] -/
theorem sx_rev {kk : Nat} {p1 p2 p3 : Pos} (ha : PE X ea (SE B a)) (hK : X.K = B.K := by rfl) : PE X (.Subscript ea (.Slice none none (some (.UnaryOp .USub (.Constant (.int 1) kk p1) p2)) p3) pos) (SE B (.opP .rev a)) := by
  refine (pe_revL ha).imp fun σ H Q h => ?_
  obtain ⟨Z, E, Fs, x, E', st, he, k⟩ := h
  simp only [ev, Option.bind_eq_bind, Option.bind_eq_some_iff, Prod.exists] at he
  obtain ⟨yd, yw, E1, h1, h2⟩ := he
  refine ⟨Z, E, Fs, (yd, yw), E1, st, h1, fun v H1 Z0 Fd0 Fs0 p0 => ?_⟩
  obtain ⟨Z1, Fd, Fs1, p⟩ := p0.kesc
  generalize kesc a (yd, yw) E1 = yk at *
  obtain ⟨⟨d, w⟩, E1'⟩ := yk
  cases d with
  | lst ys =>
    simp only at h2
    split at h2
    · rename_i hc
      simp only [Option.some.injEq, Prod.mk.injEq] at h2
      obtain ⟨rfl, rfl⟩ := h2
      obtain ⟨q, vs, G, rfl, hq, hr, ef⟩ := p.val
      have hG : G = [] := by
        rcases hc with hc | hc
        · exact (Rs_plain ys hc hr).1
        · cases w with
          | deep => exact absurd rfl hc
          | sh => exact Rs_sh ys hr
          | top => exact Rs_sh ys hr
      refine ⟨q, vs, rfl, hK ▸ hq.sub p.st.sub, fun l hl => ?_⟩
      obtain ⟨Fd', pp⟩ := new_list (u := w) p.st p.ch (Rs_rev hr hG) hl fun hpl hdeep => by
        rw [plains_rev] at hpl
        rcases hc with hc | hc
        · rw [hpl] at hc
          cases hc
        · exact absurd hdeep hc
      exact k _ _ Z1 Fd' Fs1 pp
    · cases h2
  | _ => cases h2
/-! ### sum, count -/
theorem boot_sum' : bootBuiltins "sum" = some (.builtin "sum") := by decide +kernel
theorem ok_sum : Ok1 B (app1 .sum) (fun v H Q => rSum B.K [v] H Q) := by
  intro d d' v w F Z H Q hs r he k
  cases d with
  | lst xs =>
    simp only [app1, Option.map_eq_some_iff] at he
    obtain ⟨n, hn, rfl⟩ := he
    obtain ⟨ns, h1, rfl⟩ := sumD_ints hn
    obtain ⟨q, vs, G, e, hq, hr, _⟩ := r
    refine ⟨q, ns, by rw [e], Rs_ints h1 hr ▸ hq.sub hs, k _ fun w => ⟨rfl, rfl⟩⟩
  | _ => simp [app1] at he
theorem sx_sum (hg : Gl X "sum") (hm : X.mg "sum" = none) (ha : PE X ea (SE B a)) (hK : X.K = B.K := by rfl) (hc : X.calm = true := by rfl) (he : starEach [ea] X.env = [(false, eval ea X.env)] := by rfl) : PE X (.Call (.Name "sum" p) [ea] [] pos) (SE B (.op1 .sum a)) :=
  (pe_callB (hK ▸ cr_sum hc) hg hm boot_sum' (pa_cons ha pa_nil he) (by decide) (by decide) he).imp fun _ _ _ h => cb1 ok_sum h
theorem ok_count : Ok2 B (app2 .count) (fun x y H Q => rCntI B.K x [y] H Q) := by
  intro a b d' v u w w' F F' Z H Q hs r1 r2 he k
  cases a with
  | lst xs =>
    cases b with
    | int i =>
      simp only [app2, Option.map_eq_some_iff] at he
      obtain ⟨ns, h1, rfl⟩ := he
      obtain ⟨q, vs, G, e, hq, hr, _⟩ := r1
      exact ⟨q, ns, i, e, by rw [r2.1], Rs_ints h1 hr ▸ hq.sub hs, k _ fun w => ⟨rfl, rfl⟩⟩
    | _ => simp [app2] at he
  | _ => cases b <;> simp [app2] at he
theorem sx_count (ha : PE X ea (SE B a)) (hb : PE X eb (SE B b)) (hK : X.K = B.K := by rfl) 
    (hbase : attributeBase ea "count" X.env (eval ea X.env) = eval ea X.env := by rfl)
    (hfew : ((backTo pos (starEach [eb] X.env)).all (fun x => !x.1) && (backToKw pos (keywordEach [] X.env)).all (fun x => x.1.isSome)
      && decide (([eb] : List Expr).length + ([] : List Keyword).length + (if ([] : List Keyword).isEmpty then 0 else 1) < 30)) = true := by rfl)
    (hline : (apos.endLine == pos.line) = true := by rfl) (hs : starEach [eb] X.env = [(false, eval eb X.env)] := by rfl) (hplain : (backTo pos (starEach [] X.env)).any (·.1) = false := by rfl) :
    PE X (.Call (.Attribute ea "count" apos) [eb] [] pos) (SE B (.op2 .count a b)) := by
  refine (pe_bm PySem.F.plainAttrs_list PySem.F.slot_list_count PySem.F.type_list_count mt_lcount ha (pa_cons hb pa_nil hs) hbase hfew hline hs hplain).imp fun σ H Q h => ?_
  obtain ⟨Z, E, Fs, x, E', st, he, k⟩ := h
  simp only [ev, Option.bind_eq_bind, Option.bind_eq_some_iff, Prod.exists] at he
  obtain ⟨y, w, E1, h1, he⟩ := he
  by_cases hb : brw a (wr b) (y, w) = true
  · rw [if_pos hb] at he
    simp only [Option.bind_eq_some_iff, Prod.exists] at he
    obtain ⟨z, w', E2, h2, d, h3, e⟩ := he
    simp only [Option.some.injEq, Prod.mk.injEq] at e
    obtain ⟨rfl, rfl⟩ := e
    cases y with
    | lst xs =>
      refine ⟨Z, E, Fs, (.lst xs, w), E1, st, h1, fun v H1 Z1 F1 Fs1 p => ⟨?_, ?_⟩⟩
      · obtain ⟨q, vs, G, rfl, hq, _⟩ := p.val
        exact .inl ⟨rfl, vs, hK ▸ hq.sub p.st.sub⟩
      · refine ⟨Z1, E1, Fs1, (z, w'), E2, p.st, h2, fun u H2 Z2 F2 Fs2 q => ?_⟩
        obtain ⟨_, kr⟩ := p.keep q.ch (brw_ok hb)
        rw [hK]
        exact ok_count _ _ _ v u _ _ _ _ _ H2 Q q.st.sub kr q.val h3 fun t ht => k t H2 Z2 [] Fs2 ((p.trans q).plain ht)
    | _ => simp [app2] at h3
  · rw [if_neg hb] at he
    cases he
end
end BS

set_option Elab.async false
set_option linter.all false
set_option maxRecDepth 100000
set_option maxHeartbeats 2000000
/-! Walks: pairs (zip, enumerate), backwards, a dict's keys. -/
namespace BS
open PySem PySem.Spec PyProof.Rows L2
section
variable {K : PySem.W.Frag} {FA : Nat → Addr → Prop} {Z Z' H H' : Hp}
/-! ### a dict that is locked -/
theorem Stt.frz {E : En} {σ : Sl} {Fs : List (List Addr)} {d : Addr} {od : Obj} {u : HO} (st : Stt K FA Z H E σ Fs) (hz : Z d = some u) (hu : isDic u) : Stt K FA Z (upd H d (.frz od u)) E σ Fs := by
  have hd : d ∉ Fs.flatten := fun m => by rw [st.zf d m] at hz; cases hz
  refine ⟨fun a v h => ?_, RE.keep (Le.refl _) (fun a ha => upd_ne fun e => hd (e ▸ ha)) st.re, st.nd, st.zf⟩
  by_cases e : a = d
  · subst e
    rw [hz] at h
    cases h
    exact .inr ⟨hu, od, upd_same⟩
  · rw [upd_ne e]
    exact st.sub a v h
theorem Stt.thaw {E : En} {σ : Sl} {Fs : List (List Addr)} {d : Addr} {u : HO} (st : Stt K FA Z H E σ Fs) (hz : Z d = some u) : Stt K FA Z (upd H d u) E σ Fs := by
  have hd : d ∉ Fs.flatten := fun m => by rw [st.zf d m] at hz; cases hz
  refine ⟨fun a v h => ?_, RE.keep (Le.refl _) (fun a ha => upd_ne fun e => hd (e ▸ ha)) st.re, st.nd, st.zf⟩
  by_cases e : a = d
  · subst e
    rw [hz] at h
    cases h
    exact .inl upd_same
  · rw [upd_ne e]
    exact st.sub a v h
theorem Chg.thaw {w : List Nat} {E E' : En} {Fs Fs' : List (List Addr)} {d : Addr} {od : Obj} {u : HO} (c : Chg w Z (upd H d (.frz od u)) E Fs Z' H' E' Fs') (hd : H d = some u) : Chg w Z H E Fs Z' (upd H' d u) E' Fs' := by
  have none_of : ∀ a, upd H d (.frz od u) a = none → H a = none := fun a h => by
    by_cases e : a = d
    · subst e; rw [upd_same] at h; cases h
    · rwa [upd_ne e] at h
  refine ⟨c.le, fun a v h => (c.zn a v h).imp id (Or.imp id (none_of a)), fun i a h => (c.fr i a h).imp id (Or.imp (none_of a) id), fun a v h n => ?_, fun a h => ?_, c.same⟩
  · by_cases e : a = d
    · subst e
      rw [hd] at h
      rw [upd_same]
      exact h
    · rw [upd_ne e]
      exact c.frame a v (by rw [upd_ne e]; exact h) n
  · by_cases e : a = d
    · subst e; rw [upd_same]; exact fun z => by cases z
    · rw [upd_ne e]
      exact c.there a (by rw [upd_ne e]; exact h)
theorem Pe.thaw {w : List Nat} {E E' : En} {Fs Fs' : List (List Addr)} {σ : Sl} {x : Val} {v : V} {Fd : List Addr} {d : Addr} {od : Obj} {u : HO} (p : Pe K FA w none Z (upd H d (.frz od u)) E Fs σ x E' v Z' H' Fd Fs') (hd : H d = some u) (hz : Z d = some u) : Pe K FA w none Z H E Fs σ x E' v Z' (upd H' d u) Fd Fs' := by
  have hz' := p.ch.le d u hz
  obtain ⟨n1, n2, n3⟩ := p.ex rfl
  have nd : ∀ a ∈ Fd, a ≠ d := fun a ha e => by subst e; rw [n2 a ha] at hz'; cases hz'
  refine ⟨p.st.thaw hz', p.ch.thaw hd, R_keep (Le.refl _) _ (fun a ha => upd_ne (nd a ha)) p.val, fun _ => ⟨n1, n2, fun a ha => (n3 a ha).imp (fun h => ?_) id⟩, fun _ _ z => (by cases z)⟩
  by_cases e : a = d
  · exact absurd e (nd a ha)
  · rwa [upd_ne e] at h
/-! ### the items -/
theorem RK_at {w : Ow} : ∀ {kvs : List (D × D)} {kv : List (Key × V)} {F : List Addr} {i : Nat} {a d : D}, RK K FA Z H w kvs kv F → kvs[i]? = some (a, d) → ∃ k v, kv[i]? = some (k, v) ∧ keyD a = some k
  | [], _, _, _, _, _, _, e => by simp at e
  | (a', d') :: r, _, _, 0, a, d, ⟨k, v, us, A, B, e0, ek, _, _, _⟩, e => by
    subst e0
    simp only [List.getElem?_cons_zero, Option.some.injEq, Prod.mk.injEq] at e
    obtain ⟨rfl, rfl⟩ := e
    exact ⟨k, v, rfl, ek⟩
  | (a', d') :: r, _, _, i + 1, a, d, ⟨k, v, us, A, B, e0, ek, _, h2, _⟩, e => by
    subst e0
    simp only [List.getElem?_cons_succ] at e ⊢
    exact RK_at h2 e
theorem intKeys_at : ∀ {kvs : List (D × D)} {i : Nat} {a d : D}, intKeys kvs = true → kvs[i]? = some (a, d) → ∃ n, a = .int n
  | [], _, _, _, _, e => by simp at e
  | (a', d') :: r, 0, a, d, h, e => by
    simp only [intKeys, Bool.and_eq_true] at h
    simp only [List.getElem?_cons_zero, Option.some.injEq, Prod.mk.injEq] at e
    obtain ⟨rfl, rfl⟩ := e
    cases a' <;> simp [isIntD] at h
    exact ⟨_, rfl⟩
  | (a', d') :: r, i + 1, a, d, h, e => by
    simp only [intKeys, Bool.and_eq_true] at h
    exact intKeys_at h.2 (by simpa using e)
theorem yld_keys {kvs : List (D × D)} {kv : List (Key × V)} {w : Ow} {F : List Addr} {Z1 H1 : Hp} {G : Hp → Prop} (hr : RK K FA Z1 H1 w kvs kv F) (hi : intKeys kvs = true) :
    Yld K FA (kvs.map (·.1)) Z1 G (fun i H x H' => H' = H ∧ ∃ k v, kv[i]? = some (k, v) ∧ x = kV k) := by
  intro i d x H H' Z hd le _ hy E σ Fs st
  obtain ⟨rfl, k, v, hk, rfl⟩ := hy
  rw [List.getElem?_map] at hd
  cases e : kvs[i]? with
  | none => rw [e] at hd; cases hd
  | some p =>
    obtain ⟨a, d'⟩ := p
    rw [e] at hd
    simp only [Option.map_some, Option.some.injEq] at hd
    subst hd
    obtain ⟨k', v', hk', ek⟩ := RK_at hr e
    obtain ⟨n, rfl⟩ := intKeys_at hi e
    rw [hk] at hk'
    simp only [Option.some.injEq, Prod.mk.injEq] at hk'
    obtain ⟨rfl, rfl⟩ := hk'
    simp only [keyD, Option.some.injEq] at ek
    subst ek
    exact ⟨Z, st, Chg.refl _ _ _ _ _, ⟨rfl, rfl⟩⟩
theorem shv_sh {d : D} {v : V} (h : R K FA Z H (shv d).2 (shv d).1 v []) : R K FA Z H .sh d v [] := by
  unfold shv vl at h
  split at h
  · rename_i hp
    exact (R_plain d hp h).2 _ _
  · exact h
/-- new pairs -/
theorem yld_pair {its : List D} {xs ys : Nat → Option V} {Z1 : Hp} {G : Hp → Prop}
    (h : ∀ i d x y, its[i]? = some d → xs i = some x → ys i = some y → ∃ a b, d = .tup [a, b] ∧ ∀ Z' H', Le Z1 Z' → R K FA Z' H' .sh a x [] ∧ R K FA Z' H' .sh b y []) : Yld K FA its Z1 G (YPair xs ys) := by
  intro i d v H H' Z hd le _ hy E σ Fs st
  obtain ⟨T, x, y, rfl, hT, rfl, hx, hy⟩ := hy
  obtain ⟨a, b, rfl, hr⟩ := h i d x y hd hx hy
  have zT := st.sub.none hT
  have le' : Le Z (upd Z T (.tup [x, y])) := upd_keep zT
  refine ⟨upd Z T (.tup [x, y]), st.laidZ hT, (Chg.refl _ _ _ _ _).laidZ st.sub hT, ?_⟩
  obtain ⟨r1, r2⟩ := hr (upd Z T (.tup [x, y])) (upd H T (.tup [x, y])) (le.trans le')
  exact R_vl ⟨T, [x, y], rfl, upd_same, x, [y], [], [], rfl, r1, ⟨y, [], [], [], rfl, r2, ⟨rfl, rfl⟩, rfl⟩, rfl⟩
theorem zip0_at : ∀ {xs ys : List D} {i : Nat} {d : D}, (zip0 xs ys)[i]? = some d → ∃ a b, xs[i]? = some a ∧ ys[i]? = some b ∧ d = .tup [a, b]
  | [], _, _, _, h => by simp [zip0] at h
  | _ :: _, [], _, _, h => by simp [zip0] at h
  | x :: xs, y :: ys, 0, d, h => by simp [zip0] at h; exact ⟨x, y, rfl, rfl, h.symm⟩
  | x :: xs, y :: ys, i + 1, d, h => by
    simp only [zip0, List.getElem?_cons_succ] at h ⊢
    exact zip0_at h
theorem zip0_len : ∀ {xs ys : List D}, (zip0 xs ys).length = min xs.length ys.length
  | [], _ => by simp [zip0]
  | _ :: _, [] => by simp [zip0]
  | x :: xs, y :: ys => by rw [zip0, List.length_cons, zip0_len, List.length_cons, List.length_cons]; omega
theorem enum0_at : ∀ {n : Nat} {xs : List D} {i : Nat} {d : D}, (enum0 n xs)[i]? = some d → ∃ a, xs[i]? = some a ∧ d = .tup [.int ((n + i : Nat) : Int), a]
  | _, [], _, _, h => by simp [enum0] at h
  | n, x :: xs, 0, d, h => by simp [enum0] at h; exact ⟨x, rfl, by rw [← h]; rfl⟩
  | n, x :: xs, i + 1, d, h => by
    simp only [enum0, List.getElem?_cons_succ] at h ⊢
    obtain ⟨a, h1, h2⟩ := enum0_at h
    exact ⟨a, h1, by rw [h2]; congr 4; omega⟩
theorem enum0_len : ∀ {n : Nat} {xs : List D}, (enum0 n xs).length = xs.length
  | _, [] => rfl
  | n, x :: xs => by rw [enum0, List.length_cons, enum0_len]; rfl
theorem Items.sh_at {Z1 : Hp} {ys : List D} {vs : List V} (h : Items K FA Z1 ys vs) {i : Nat} {a : D} {x : V} (e : ys[i]? = some a) (ex : vs[i]? = some x) : ∀ Z' H', Le Z1 Z' → R K FA Z' H' .sh a x [] := by
  obtain ⟨v, hv, r⟩ := h.itm i a e
  rw [ex] at hv
  cases hv
  exact fun Z' H' le => shv_sh (r Z' H' le)
theorem yld_zip {xs ys : List D} {vs us : List V} {Z1 : Hp} {G : Hp → Prop} (h : Items K FA Z1 xs vs) (h' : Items K FA Z1 ys us) : Yld K FA (zip0 xs ys) Z1 G (YPair (fun i => vs[i]?) (fun i => us[i]?)) :=
  yld_pair fun i d x y hd hx hy => by
    obtain ⟨a, b, ea, eb, rfl⟩ := zip0_at hd
    exact ⟨a, b, rfl, fun Z' H' le => ⟨h.sh_at ea hx Z' H' le, h'.sh_at eb hy Z' H' le⟩⟩
theorem yld_enum {xs : List D} {vs : List V} {Z1 : Hp} {G : Hp → Prop} (h : Items K FA Z1 xs vs) : Yld K FA (enum0 0 xs) Z1 G (YPair (fun i => some (.int (i : Nat))) (fun i => vs[i]?)) :=
  yld_pair fun i d x y hd hx hy => by
    obtain ⟨a, ea, rfl⟩ := enum0_at hd
    cases hx
    exact ⟨_, a, rfl, fun Z' H' le => ⟨⟨by simp, rfl⟩, h.sh_at ea hy Z' H' le⟩⟩
theorem yld_rev {xs : List D} {vs : List V} {Z1 : Hp} {G : Hp → Prop} (h : Items K FA Z1 xs vs) : Yld K FA xs.reverse Z1 G (fun i H x H' => H' = H ∧ vs[vs.length - 1 - i]? = some x) := by
  intro i d x H H' Z hd le _ hy E σ Fs st
  obtain ⟨rfl, hx⟩ := hy
  have hi : i < xs.length := by
    have := (List.getElem?_eq_some_iff.mp hd).1
    simpa using this
  rw [List.getElem?_reverse hi, ← h.len] at hd
  obtain ⟨v, hv, r⟩ := h.itm _ d hd
  rw [hx] at hv
  cases hv
  exact ⟨Z, st, Chg.refl _ _ _ _ _, r Z H' le⟩
/-- two values that are given to all -/
theorem Pes.two {w : List Nat} {E E' : En} {σ : Sl} {Fs Fs' Fds : List (List Addr)} {l : List Val} {xs ys : List D} {vs : List V} (q : Pes K FA w Z H E Fs σ l E' vs Z' H' Fds Fs') (e : ds l = [.lst xs, .lst ys]) :
    ∃ Z2 a b us ws, Stt K FA Z2 H' E' σ Fs' ∧ Chg w Z H E Fs Z2 H' E' Fs' ∧ vs = [.ref a, .ref b] ∧ Z2 a = some (.lst us) ∧ Z2 b = some (.lst ws) ∧ Items K FA Z2 xs us ∧ Items K FA Z2 ys ws := by
  obtain ⟨s, c, r⟩ := q.shared
  rw [e] at r
  obtain ⟨v, us', A, B, rfl, r1, ⟨v2, us2, A2, B2, rfl, r2, ⟨rfl, rfl⟩, _⟩, _⟩ := r
  obtain ⟨a, us, G, rfl, ha, hr, _⟩ := r1
  obtain ⟨b, ws, G2, rfl, hb, hr2, _⟩ := r2
  exact ⟨_, a, b, us, ws, s, c, rfl, ha, hb, .sh hr, .sh hr2⟩
end
theorem lst_in {Z H : Hp} {a : Addr} {vs : List V} (s : Sub Z H) (h : Z a = some (.lst vs)) : H a = some (.lst vs) := by
  rcases s a _ h with y | ⟨y, _⟩
  · exact y
  · exact y.elim
section
variable {X : Cx} {B : Bk} {pos p pos' tpos : Pos} {Z1 : Hp} {G : Hp → Prop} {body : List Stmt} {b : Ss} {ee ef tgE : Expr} {elts : List Expr} {kk : Nat} {e f : Ex} {T : Tg}
theorem zip_items {l : List D} {its : List D} (h : items .zip l = some its) : ∃ xs ys, l = [.lst xs, .lst ys] ∧ its = zip0 xs ys := by
  rcases l with _ | ⟨a, _ | ⟨b, _ | ⟨c, l⟩⟩⟩
  · simp [items] at h
  · cases a <;> simp [items] at h
  · cases a <;> cases b <;> simp [items] at h
    exact ⟨_, _, rfl, h.symm⟩
  · cases a <;> cases b <;> simp [items] at h
/-- for over zip -/
theorem ss_zip (hg' : Gl X "zip") (hm : X.mg "zip" = none) (ha : PA X [ee, ef] (SXs B [e, f])) (hg : PG X (.Tuple elts kk tpos) (tgT B.K T)) (hb : PSs X body (SS B b)) (hxe : X.xe = fun _ _ => False := by rfl) (hc : X.calm = true := by rfl) (hK : X.K = B.K := by rfl)
    (he : starEach [ee, ef] X.env = (false, eval ee X.env) :: starEach [ef] X.env := by rfl) (hpl : (backTo pos' (starEach [ef] X.env)).any (·.1) = false := by rfl) (hs : ∀ x, foldedSetIterable (.Call (.Name "zip" p) [ee, ef] [] pos') X.env x = pure x := by intro _; rfl) :
    PS X (.For (.Tuple elts kk tpos) (.Call (.Name "zip" p) [ee, ef] [] pos') body [] pos) (SS B (.for_ T .zip [e, f] b)) := by
  have hp : PassesOwn (model X.prog X.w) X.A X.env X.xe := by rw [hxe]; exact PassesOwn.never
  refine (ps_for hp hc (pi_zip hg' hm ha he hpl) hg hb hs).imp fun D σ H h => ?_
  obtain ⟨Z, E, Fs, o, s, hx, q⟩ := h
  obtain ⟨xs, E1, its, h1, h2, h3⟩ := ex_for hx
  refine ⟨Z, E, Fs, xs, E1, s, h1, fun vs H1 Z1 Fds Fs1 pp => ?_⟩
  obtain ⟨ys, zs, ed, rfl⟩ := zip_items h2
  obtain ⟨Z2, a, c, us, ws, s2, c2, rfl, za, zc, i1, i2⟩ := pp.two ed
  refine ⟨a, c, us, ws, rfl, SqL.of (lst_in s2.sub za), SqL.of (lst_in s2.sub zc), ?_⟩
  rw [hK]
  refine for_se (walk_zip (K := B.K) (a := a) (b := c) rfl) s2 (by rw [zip0_len, i1.len, i2.len]) h3 (fun {H' Z' E' Fs'} c' s' => ⟨SqL.of (lst_in s' (c'.le _ _ za)), SqL.of (lst_in s' (c'.le _ _ zc))⟩) (yld_zip i1 i2) (for_post q c2)
theorem lc_zip {shr : Bool} {elt cond : Ex} {σ : Sl} {H : Hp} {Q : VK} (h : SE B (.comp shr elt T .zip [e, f] cond) σ H Q) : tLc (iZip B.K (SXs B [e, f])) (tgT B.K T) (ST B cond) (SE B elt) (tgs T) σ H Q := by
  obtain ⟨Z, E, Fs, x', E', s, hx, kq⟩ := h
  obtain ⟨xs, E1, its, acc, E2, h1, h2, h3, h4, h5, rfl, rfl⟩ := ev_comp hx
  refine ⟨Z, E, Fs, xs, E1, s, h1, fun vs H1 Z1 Fds Fs1 pp => ?_⟩
  obtain ⟨ys, zs, ed, rfl⟩ := zip_items h2
  obtain ⟨Z2, a, c, us, ws, s2, c2, rfl, za, zc, i1, i2⟩ := pp.two ed
  refine ⟨a, c, us, ws, rfl, SqL.of (lst_in s2.sub za), SqL.of (lst_in s2.sub zc), fun D0 hD => ?_⟩
  exact lc_se (walk_zip (K := B.K) (a := a) (b := c) rfl) s2 h4 (by rw [zip0_len, i1.len, i2.len]) h3 h5 (fun {H' Z' E' Fs'} c' s' => ⟨SqL.of (lst_in s' (c'.le _ _ za)), SqL.of (lst_in s' (c'.le _ _ zc))⟩) (yld_zip i1 i2) hD (comp_post kq c2)
theorem src_zip (hg' : Gl X "zip") (hm : X.mg "zip" = none) (ha : PA X [ee, ef] (SXs B [e, f])) (hK : X.K = B.K := by rfl)
    (he : starEach [ee, ef] X.env = (false, eval ee X.env) :: starEach [ef] X.env := by rfl) (hpl : (backTo pos' (starEach [ef] X.env)).any (·.1) = false := by rfl) :
    Src X B (.Tuple elts kk tpos) (.Call (.Name "zip" p) [ee, ef] [] pos') T .zip [e, f] (iZip B.K (SXs B [e, f])) := ⟨hK ▸ pi_zip hg' hm ha he hpl, lc_zip⟩
/-! ### one list -/
theorem one_items {k : Ik} (hk : k = .enu ∨ k = .rev) {l : List D} {its : List D} (h : items k l = some its) : ∃ xs, l = [.lst xs] ∧ ((k = .enu ∧ its = enum0 0 xs) ∨ (k = .rev ∧ its = xs.reverse)) := by
  rcases hk with rfl | rfl
  · rcases l with _ | ⟨a, _ | ⟨b, l⟩⟩
    · simp [items] at h
    · cases a <;> simp [items] at h
      exact ⟨_, rfl, .inl ⟨rfl, h.symm⟩⟩
    · cases a <;> simp [items] at h
  · rcases l with _ | ⟨a, _ | ⟨b, l⟩⟩
    · simp [items] at h
    · cases a <;> simp [items] at h
      exact ⟨_, rfl, .inr ⟨rfl, h.symm⟩⟩
    · cases a <;> simp [items] at h
/-- an argument, kept in its place -/
theorem pa_one {t : TE} (he : PE X ee t) (hs : starEach [ee] X.env = (false, eval ee X.env) :: starEach [] X.env := by rfl) : PA X [ee] (tCons t tNil) := pa_cons he pa_nil hs
theorem src_one {k : Ik} {w : List Nat} {Φ : Phi} {E E1 : En} {xs : List Val} (hk : k = .enu ∨ k = .rev) (h : (match k with | .rng => evs Φ [e] E | .zip => evs Φ [e] E | _ => evit Φ w [e] E) = some (xs, E1)) : evit Φ w [e] E = some (xs, E1) := by
  rcases hk with rfl | rfl <;> exact h
theorem ss_enum (hg' : Gl X "enumerate") (hm : X.mg "enumerate" = none) (he : PE X ee (SE B e)) (hg : PG X (.Tuple elts kk tpos) (tgT B.K T)) (hb : PSs X body (SS B b)) (hxe : X.xe = fun _ _ => False := by rfl) (hc : X.calm = true := by rfl) (hK : X.K = B.K := by rfl)
    (hs1 : starEach [ee] X.env = (false, eval ee X.env) :: starEach [] X.env := by rfl) (hs : ∀ x, foldedSetIterable (.Call (.Name "enumerate" p) [ee] [] pos') X.env x = pure x := by intro _; rfl) :
    PS X (.For (.Tuple elts kk tpos) (.Call (.Name "enumerate" p) [ee] [] pos') body [] pos) (SS B (.for_ T .enu [e] b)) := by
  have hp : PassesOwn (model X.prog X.w) X.A X.env X.xe := by rw [hxe]; exact PassesOwn.never
  refine (ps_for hp hc (pi_enum hg' hm (pa_one he hs1) (hs := hs1)) hg hb hs).imp fun D σ H h => ?_
  obtain ⟨Z, E, Fs, o, s, hx, q⟩ := h
  obtain ⟨xs, E1', its, h1, h2, h3⟩ := ex_for hx
  obtain ⟨x, E1, h0, hcase⟩ := evit1 (src_one (.inl rfl) h1)
  refine ⟨Z, E, Fs, x, E1, s, h0, fun v H1 Z1 Fd Fs1 pp => ?_⟩
  obtain ⟨Z2, Fs2, s2, c2, d2, l2, _⟩ := pp.src hcase
  rw [d2] at h2
  obtain ⟨ys, ey, h4⟩ := one_items (.inl rfl) h2
  simp only [reduceCtorEq, false_and, or_false, true_and] at h4
  subst h4
  obtain ⟨a, vs, rfl, src⟩ := l2 ys (by simpa using ey)
  refine ⟨a, vs, rfl, SqL.of (src.stand (Chg.refl _ _ _ _ _) s2.sub), ?_⟩
  rw [hK]
  refine for_se (walk_enum (K := B.K) (a := a) (xs := vs)) s2 (by rw [enum0_len, src.it.len]) h3 (fun {H' Z' E' Fs'} c s' => ?_) (yld_enum src.it) (for_post q (c2.mono (wrs1 e)))
  exact SqL.of (src.stand (c.mono fun i hi => by simp only [List.mem_append] at hi ⊢; exact hi.symm) s')
theorem lc_enum {shr : Bool} {elt cond : Ex} {σ : Sl} {H : Hp} {Q : VK} (h : SE B (.comp shr elt T .enu [e] cond) σ H Q) : tLc (iEnum B.K (tCons (SE B e) tNil)) (tgT B.K T) (ST B cond) (SE B elt) (tgs T) σ H Q := by
  obtain ⟨Z, E, Fs, x', E', s, hx, kq⟩ := h
  obtain ⟨xs, E1', its, acc, E2, h1, h2, h3, h4, h5, rfl, rfl⟩ := ev_comp hx
  obtain ⟨x, E1, h0, hcase⟩ := evit1 (src_one (.inl rfl) h1)
  refine ⟨Z, E, Fs, x, E1, s, h0, fun v H1 Z1 Fd Fs1 pp => ?_⟩
  obtain ⟨Z2, Fs2, s2, c2, d2, l2, _⟩ := pp.src hcase
  rw [d2] at h2
  obtain ⟨ys, ey, h6⟩ := one_items (.inl rfl) h2
  simp only [reduceCtorEq, false_and, or_false, true_and] at h6
  subst h6
  obtain ⟨a, vs, rfl, src⟩ := l2 ys (by simpa using ey)
  refine ⟨a, vs, rfl, SqL.of (src.stand (Chg.refl _ _ _ _ _) s2.sub), fun D0 hD => ?_⟩
  exact lc_se (walk_enum (K := B.K) (a := a) (xs := vs)) s2 h4 (by rw [enum0_len, src.it.len]) h3 h5 (fun {H' Z' E' Fs'} c s' => SqL.of (src.stand c s')) (yld_enum src.it) hD (comp_post kq (c2.mono (wrs1 e)))
theorem src_enum (hg' : Gl X "enumerate") (hm : X.mg "enumerate" = none) (he : PE X ee (SE B e)) (hK : X.K = B.K := by rfl) (hs1 : starEach [ee] X.env = (false, eval ee X.env) :: starEach [] X.env := by rfl) :
    Src X B (.Tuple elts kk tpos) (.Call (.Name "enumerate" p) [ee] [] pos') T .enu [e] (iEnum B.K (tCons (SE B e) tNil)) := ⟨hK ▸ pi_enum hg' hm (pa_one he hs1) (hs := hs1), lc_enum⟩
theorem ss_rev (hg' : Gl X "reversed") (hm : X.mg "reversed" = none) (he : PE X ee (SE B e)) (hg : PG X tgE (tgT B.K T)) (hb : PSs X body (SS B b)) (hxe : X.xe = fun _ _ => False := by rfl) (hc : X.calm = true := by rfl) (hK : X.K = B.K := by rfl)
    (hs1 : starEach [ee] X.env = (false, eval ee X.env) :: starEach [] X.env := by rfl) (hs : ∀ x, foldedSetIterable (.Call (.Name "reversed" p) [ee] [] pos') X.env x = pure x := by intro _; rfl) :
    PS X (.For tgE (.Call (.Name "reversed" p) [ee] [] pos') body [] pos) (SS B (.for_ T .rev [e] b)) := by
  have hp : PassesOwn (model X.prog X.w) X.A X.env X.xe := by rw [hxe]; exact PassesOwn.never
  refine (ps_for hp hc (pi_reversed hg' hm (pa_one he hs1) (hs := hs1)) hg hb hs).imp fun D σ H h => ?_
  obtain ⟨Z, E, Fs, o, s, hx, q⟩ := h
  obtain ⟨xs, E1', its, h1, h2, h3⟩ := ex_for hx
  obtain ⟨x, E1, h0, hcase⟩ := evit1 (src_one (.inr rfl) h1)
  refine ⟨Z, E, Fs, x, E1, s, h0, fun v H1 Z1 Fd Fs1 pp => ?_⟩
  obtain ⟨Z2, Fs2, s2, c2, d2, l2, _⟩ := pp.src hcase
  rw [d2] at h2
  obtain ⟨ys, ey, h4⟩ := one_items (.inr rfl) h2
  simp only [reduceCtorEq, false_and, false_or, true_and] at h4
  subst h4
  obtain ⟨a, vs, rfl, src⟩ := l2 ys (by simpa using ey)
  refine ⟨a, vs, rfl, SqL.of (src.stand (Chg.refl _ _ _ _ _) s2.sub), ?_⟩
  rw [hK]
  refine for_se (walk_rev (K := B.K) (a := a) (xs := vs)) s2 (by rw [List.length_reverse, src.it.len]) h3 (fun {H' Z' E' Fs'} c s' => ?_) (yld_rev src.it) (for_post q (c2.mono (wrs1 e)))
  exact SqL.of (src.stand (c.mono fun i hi => by simp only [List.mem_append] at hi ⊢; exact hi.symm) s')
/-! ### a dict's keys -/
/-- what a name's slot holds, given to all -/
theorem var_src {K : PySem.W.Frag} {FA : Nat → Addr → Prop} {Z H : Hp} {E E' : En} {σ : Sl} {Fs : List (List Addr)} {i : Nat} {w : List Nat} {Φ : Phi} {xs : List Val} {kvs : List (D × D)} (st : Stt K FA Z H E σ Fs) (h1 : evit Φ w [.var i] E = some (xs, E')) (e : ds xs = [.dic false kvs]) :
    ∃ Z2 Fs2 d kv, σ[i]? = some (some (.ref d)) ∧ Stt K FA Z2 H E' σ Fs2 ∧ Chg (wrs [.var i]) Z H E Fs Z2 H E' Fs2 ∧ Z2 d = some (.dK kv) ∧ RK K FA Z2 H .sh kvs kv [] := by
  obtain ⟨x, E1, h0, hcase⟩ := evit1 h1
  unfold ev at h0
  cases e1 : E[i]? with
  | none => rw [e1] at h0; cases h0
  | some o =>
    rw [e1] at h0
    cases o with
    | none => cases h0
    | some y =>
      simp only [Option.some.injEq, Prod.mk.injEq] at h0
      obtain ⟨rfl, rfl⟩ := h0
      obtain ⟨v, hv, ro⟩ := st.re.get e1
      cases v with
      | none => exact ro.elim
      | some v =>
        have pe : Pe K FA [] (pr (.var i)) Z H E Fs σ y E v Z H (Fs.getD i []) Fs := ⟨st, Chg.refl _ _ _ _ _, ro, fun z => (by simp [pr] at z), fun j b z => by
          simp [pr, isIx] at z
          obtain ⟨rfl, rfl⟩ := z
          exact ⟨fun a ha => ha, fun _ => ⟨by rw [List.getD_eq_getElem?_getD, e1]; rfl, rfl⟩⟩⟩
        obtain ⟨Z2, Fs2, s2, c2, d2, _, _, _, k2⟩ := pe.src hcase
        rw [d2] at e
        simp only [List.cons.injEq, and_true] at e
        obtain ⟨d, G, rfl, hq, ef⟩ := k2 false kvs e
        rcases hq with ⟨_, kv, hc, hn, hr⟩ | ⟨z, _⟩
        · have e0 := RK_sh kvs hr
          subst e0
          exact ⟨Z2, Fs2, d, kv, hv, s2, c2.mono (wrs1 (.var i)), hc, hr⟩
        · cases z
theorem RK_length {K : PySem.W.Frag} {FA : Nat → Addr → Prop} {Z H : Hp} {kvs : List (D × D)} {kv : List (Key × V)} {w F} (h : RK K FA Z H w kvs kv F) : kv.length = kvs.length := RK_len h
theorem keys_items {l : List D} {its : List D} (h : items .keys l = some its) : (∃ kvs, l = [.dic false kvs] ∧ intKeys kvs = true ∧ its = kvs.map (·.1)) ∨ items .of l = some its := by
  rcases l with _ | ⟨a, _ | ⟨b, l⟩⟩
  · simp [items] at h
  · cases a with
    | dic t kvs =>
      cases t with
      | false =>
        simp only [items, Option.ite_none_right_eq_some, Option.some.injEq] at h
        exact .inl ⟨kvs, rfl, h.1, h.2.symm⟩
      | true => simp [items] at h
    | _ => first | exact .inr h | (simp [items] at h)
  · cases a <;> simp [items] at h
theorem tail_none {σ : Sl} {H : Hp} {d : Addr} {i : Nat} (h : σ[i]? = some (some (V.ref d))) : True := trivial
theorem ss_forN {i : Nat} {x : Str} {px : Pos} (hN : X.N[i]? = some x) (hv : Vis X.env.scope x) (hg : PG X tgE (tgT B.K T)) (hb : PSs X body (SS B b)) (hd : (x == ("__debug__" : Str)) = false := by decide) (hcd : (x == ("__classdict__" : Str)) = false := by decide) (hxe : X.xe = fun _ _ => False := by rfl) (hc : X.calm = true := by rfl) (hK : X.K = B.K := by rfl) (hs : ∀ y, foldedSetIterable (.Name x px) X.env y = pure y := by intro _; rfl) :
    PS X (.For tgE (.Name x px) body [] pos) (SS B (.for_ T .keys [.var i] b)) := by
  have hp : PassesOwn (model X.prog X.w) X.A X.env X.xe := by rw [hxe]; exact PassesOwn.never
  have he : PE X (.Name x px) (SE B (.var i)) := sx_var hN hv hd hcd
  have base := ss_for (b := b) (T := T) (pos := pos) he hg hb hxe hc hK hs
  have kd := ps_for (pos := pos) hp hc (pi_keys (pe_var (pos := px) hN hv hd hcd)) hg hb hs
  refine ((base.or kd).or (ps_lock kd)).imp fun D σ H h => ?_
  obtain ⟨Z, E, Fs, o, s, hx, q⟩ := h
  obtain ⟨xs, E1, its, h1, h2, h3⟩ := ex_for hx
  have h1 : evit B.Φ (wrS b ++ tgs T) [.var i] E = some (xs, E1) := h1
  rcases keys_items h2 with ⟨kvs, ed, hi, rfl⟩ | h2'
  · obtain ⟨Z2, Fs2, d, kv, hσ, s2, c2, hz, hr⟩ := var_src s h1 ed
    have q2 := for_post q c2
    rcases s2.sub d _ hz with hH | ⟨_, od, hH⟩
    · refine .inr ⟨d, .dK kv, hH, trivial, fun od => ?_⟩
      have s3 := s2.frz (od := od) hz trivial
      refine ⟨_, hσ, d, od, rfl, .inl ⟨kv, upd_same, ?_⟩⟩
      refine for_se (walk_keys (d := d) (o := od) (kvs := kv)) s3 (by rw [List.length_map, RK_length hr]) h3 (fun {H' Z' E' Fs'} c s' => ?_) (yld_keys hr hi) ?_
      · refine c.frame d _ upd_same fun z => ?_
        rw [s2.zf d z.flat] at hz
        cases hz
      · cases o with
        | nx E' =>
          intro σ' H' Z' Fs' s' c' g'
          have hf : H' d = some (.frz od (.dK kv)) := c'.frame d _ upd_same fun z => by
            rw [s2.zf d z.flat] at hz
            cases hz
          exact ⟨hf, q2 σ' _ Z' Fs' (s'.thaw (c'.le d _ hz)) (c'.thaw hH) g'⟩
        | rt y E' =>
          intro v σ' H' Z' Fd Fs' p' g'
          have hf : H' d = some (.frz od (.dK kv)) := p'.ch.frame d _ upd_same fun z => by
            rw [s2.zf d z.flat] at hz
            cases hz
          exact ⟨hf, q2 v σ' _ Z' Fd Fs' (p'.thaw hH hz) g'⟩
    · refine .inl (.inr ⟨_, hσ, d, od, rfl, .inl ⟨kv, hH, ?_⟩⟩)
      refine for_se (walk_keys (d := d) (o := od) (kvs := kv)) s2 (by rw [List.length_map, RK_length hr]) h3 (fun {H' Z' E' Fs'} c s' => ?_) (yld_keys hr hi) q2
      refine c.frame d _ hH fun z => ?_
      rw [s2.zf d z.flat] at hz
      cases hz
  · refine .inl (.inl ⟨Z, E, Fs, o, s, ?_, ?_⟩)
    · simp only [ex, Option.bind_eq_bind, Option.bind_eq_some_iff, Prod.exists]
      exact ⟨xs, E1, h1, its, h2', h3⟩
    · cases o with
      | nx E' => exact q
      | rt y E' => exact q
theorem lc_keysN {shr : Bool} {elt cond : Ex} {i : Nat} {σ : Sl} {H : Hp} {Q : VK} (h : SE B (.comp shr elt T .keys [.var i] cond) σ H Q) :
    (tLc (iOf B.K (SE B (.var i))) (tgT B.K T) (ST B cond) (SE B elt) (tgs T) σ H Q ∨ tLc (iKeys (tVar i)) (tgT B.K T) (ST B cond) (SE B elt) (tgs T) σ H Q) ∨ tLockE (tLc (iKeys (tVar i)) (tgT B.K T) (ST B cond) (SE B elt) (tgs T)) σ H Q := by
  obtain ⟨Z, E, Fs, x', E', s, hx, kq⟩ := h
  obtain ⟨xs, E1, its, acc, E2, h1, h2, h3, h4, h5, rfl, rfl⟩ := ev_comp hx
  have h1 : evit B.Φ (lcW T elt cond) [.var i] E = some (xs, E1) := h1
  rcases keys_items h2 with ⟨kvs, ed, hi, rfl⟩ | h2'
  · obtain ⟨Z2, Fs2, d, kv, hσ, s2, c2, hz, hr⟩ := var_src s h1 ed
    rcases s2.sub d _ hz with hH | ⟨_, od, hH⟩
    · refine .inr ⟨d, .dK kv, hH, trivial, fun od => ?_⟩
      have s3 := s2.frz (od := od) hz trivial
      refine ⟨_, hσ, d, od, rfl, .inl ⟨kv, upd_same, fun D0 hD => ?_⟩⟩
      have hD' : H D0 = none := by
        by_cases e : D0 = d
        · subst e; rw [upd_same] at hD; cases hD
        · rwa [upd_ne e] at hD
      refine lc_se (walk_keys (d := d) (o := od) (kvs := kv)) s3 h4 (by rw [List.length_map, RK_length hr]) h3 h5 (fun {H' Z' E' Fs'} c s' => ?_) (yld_keys hr hi) hD ?_
      · refine c.frame d _ upd_same fun z => ?_
        rw [s2.zf d z.flat] at hz
        cases hz
      · intro H' Z' Fd Fs' p'
        have hf : H' d = some (.frz od (.dK kv)) := p'.ch.frame d _ upd_same fun z => by
          rw [s2.zf d z.flat] at hz
          cases hz
        exact ⟨hf, comp_post kq c2 _ Z' Fd Fs' (p'.thaw hH hz)⟩
    · refine .inl (.inr ⟨_, hσ, d, od, rfl, .inl ⟨kv, hH, fun D0 hD => ?_⟩⟩)
      refine lc_se (walk_keys (d := d) (o := od) (kvs := kv)) s2 h4 (by rw [List.length_map, RK_length hr]) h3 h5 (fun {H' Z' E' Fs'} c s' => ?_) (yld_keys hr hi) hD (comp_post kq c2)
      refine c.frame d _ hH fun z => ?_
      rw [s2.zf d z.flat] at hz
      cases hz
  · refine .inl (.inl (lc_of (shr := shr) ⟨Z, E, Fs, _, _, s, ?_, kq⟩))
    simp only [ev, Option.bind_eq_bind, Option.bind_eq_some_iff, Prod.exists]
    refine ⟨xs, E1, h1, its, h2', ?_⟩
    rw [if_pos ⟨h3, h4⟩]
    simp only [Option.bind_eq_some_iff, Prod.exists, Option.some.injEq, Prod.mk.injEq]
    exact ⟨acc, E2, h5, ⟨rfl, rfl⟩, rfl⟩
theorem sx_compN {shr : Bool} {elt cond : Ex} {eltE : Expr} {ifs : List Expr} {scope : Scope} {i : Nat} {x : Str} {px : Pos} (own : List (Str × Nat)) (hi : X.N[i]? = some x) (hv : Vis X.env.scope x) (ok : blkC X.N X.env.scope scope own = true) (hg : BlkPG X scope tgE (tgT B.K T)) (ht : BlkPT X scope ifs (ST B cond)) (hel : BlkPE X scope eltE (SE B elt)) (hN : X.N.Nodup)
    (hd : (x == ("__debug__" : Str)) = false := by decide) (hcd : (x == ("__classdict__" : Str)) = false := by decide) (ho : own.map (·.2) = tgs T := by rfl) (hc : X.calm = true := by rfl) (hK : X.K = B.K := by rfl) (hs : ∀ y, foldedSetIterable (.Name x px) X.env y = pure y := by intro _; rfl) :
    PE X (.ListComp eltE [⟨tgE, .Name x px, ifs, 0⟩] scope pos) (SE B (.comp shr elt T .keys [.var i] cond)) := by
  have kd := pe_lc (pos := pos) hc hN (pi_keys (tg := tgE) (pe_var (pos := px) hi hv hd hcd)) (blkOk_by ok) hg ht hel hs
  refine (((pe_lc hc hN (src_of (T := T) (tgE := tgE) (sx_var hi hv hd hcd) hK).pi (blkOk_by ok) hg ht hel hs).or kd).or (pe_lock kd)).imp fun σ H Q h => ?_
  rw [ho]
  exact lc_keysN h
theorem lockE_set {t : TE} {i : Nat} {D : Ends} {σ : Sl} {H : Hp} (h : tLockE t σ H fun v H1 => gName i v σ H1 D.nx) : tLock (tAsg t (gName i)) D σ H := by
  obtain ⟨d, u, hd, mu, k⟩ := h
  exact ⟨d, u, hd, mu, fun od => k od⟩
theorem ss_setCompN {shr : Bool} {elt cond : Ex} {eltE : Expr} {ifs : List Expr} {scope : Scope} {j : Nat} {z : Str} {px : Pos} (own : List (Str × Nat)) (hj : X.N[j]? = some z) (hv : Vis X.env.scope z) (ok : blkC X.N X.env.scope scope own = true) (hg : BlkPG X scope tgE (tgT B.K T)) (ht : BlkPT X scope ifs (ST B cond)) (hel : BlkPE X scope eltE (SE B elt)) (hN : X.N.Nodup) {i : Nat} {y : Str} {py : Pos} (hy : X.N[i]? = some y) (hyl : X.env.scope.names.lookup y = some .local)
    (hsw : swapsWith (.ListComp eltE [⟨tgE, .Name z px, ifs, 0⟩] scope pos) (some (.Name y py)) pos'.line X.env = pure true) (hd : (z == ("__debug__" : Str)) = false := by decide) (hcd : (z == ("__classdict__" : Str)) = false := by decide) (ho : own.map (·.2) = tgs T := by rfl) (hc : X.calm = true := by rfl) (hK : X.K = B.K := by rfl) (hs : ∀ y, foldedSetIterable (.Name z px) X.env y = pure y := by intro _; rfl) :
    PS X (.Assign [.Name y py] (.ListComp eltE [⟨tgE, .Name z px, ifs, 0⟩] scope pos) pos') (SS B (.set (.v i) (.comp shr elt T .keys [.var j] cond))) := by
  have kd := ps_setLc hc hN hy hyl hsw (pi_keys (tg := tgE) (pe_var (pos := px) hj hv hd hcd)) (blkOk_by ok) hg ht hel hs
  refine (((ps_setLc hc hN hy hyl hsw (src_of (T := T) (tgE := tgE) (sx_var hj hv hd hcd) hK).pi (blkOk_by ok) hg ht hel hs).or kd).or (ps_lock kd)).imp fun D σ H h => ?_
  rw [ho]
  rcases lc_keysN (set_ss h) with (h1 | h1) | h1
  · exact .inl (.inl h1)
  · exact .inl (.inr h1)
  · exact .inr (lockE_set h1)
end
end BS

set_option Elab.async false
set_option linter.all false
set_option maxRecDepth 100000
set_option maxHeartbeats 2000000
/-! Reckoning with the evaluator: what must hold behind an expression, behind a statement. -/
namespace BS
open PySem
section
variable {Φ : Phi}
def EV (Φ : Phi) (e : Ex) (E : En) (P : Val → En → Prop) : Prop := ∃ x E', ev Φ e E = some (x, E') ∧ P x E'
def EVs (Φ : Phi) (es : List Ex) (E : En) (P : List Val → En → Prop) : Prop := ∃ x E', evs Φ es E = some (x, E') ∧ P x E'
def EVi (Φ : Phi) (w : List Nat) (es : List Ex) (E : En) (P : List Val → En → Prop) : Prop := ∃ x E', evit Φ w es E = some (x, E') ∧ P x E'
def EVa (Φ : Phi) (es : List Ex) (E : En) (P : List Ar → En → Prop) : Prop := ∃ x E', eva Φ es E = some (x, E') ∧ P x E'
def EX (Φ : Phi) (s : Ss) (E : En) (N : En → Prop) (R : Val → En → Prop) : Prop := ∃ o, ex Φ s E = some o ∧ (match o with | .nx E' => N E' | .rt x E' => R x E')
theorem ex2 {α β : Type} {a : α} {b : β} {P : α → β → Prop} : (∃ x E', some (a, b) = some (x, E') ∧ P x E') ↔ P a b := ⟨by rintro ⟨x, E', h, p⟩; cases h; exact p, fun p => ⟨_, _, rfl, p⟩⟩
theorem EV.imp {e E P Q} (h : EV Φ e E P) (k : ∀ x E', P x E' → Q x E') : EV Φ e E Q := let ⟨x, E', a, b⟩ := h; ⟨x, E', a, k _ _ b⟩
theorem EX.imp {s E N R N' R'} (h : EX Φ s E N R) (k : ∀ E', N E' → N' E') (k' : ∀ x E', R x E' → R' x E') : EX Φ s E N' R' := by
  obtain ⟨o, a, b⟩ := h
  refine ⟨o, a, ?_⟩
  cases o with
  | nx E' => exact k _ b
  | rt x E' => exact k' _ _ b
theorem EV_int {i E P} : EV Φ (.int i) E P ↔ P (.int i, .deep) E := by unfold EV; simp only [ev]; exact ex2
theorem EV_str {i E P} : EV Φ (.str i) E P ↔ P (.str i, .deep) E := by unfold EV; simp only [ev]; exact ex2
theorem EV_bl {i E P} : EV Φ (.bl i) E P ↔ P (.bl i, .deep) E := by unfold EV; simp only [ev]; exact ex2
theorem EV_non {E P} : EV Φ .non E P ↔ P (.non, .deep) E := by unfold EV; simp only [ev]; exact ex2
theorem EV_glo {d E P} : EV Φ (.glo d) E P ↔ P (d, .deep) E := by unfold EV; simp only [ev]; exact ex2
theorem EV_var {i E P} : EV Φ (.var i) E P ↔ ∃ x, E[i]? = some (some x) ∧ P x E := by
  unfold EV
  simp only [ev]
  cases E[i]? with
  | none => simp
  | some o =>
    cases o with
    | none => simp
    | some x =>
      simp only [Option.some.injEq]
      exact ⟨by rintro ⟨y, E', h, p⟩; cases h; exact ⟨x, rfl, p⟩, by rintro ⟨y, rfl, p⟩; exact ⟨_, _, rfl, p⟩⟩
theorem EV_op1 {o a E P} : EV Φ (.op1 o a) E P ↔ EV Φ a E fun x E1 => ∃ d, app1 o x.1 = some d ∧ P (d, .deep) E1 := by
  unfold EV
  simp only [ev, Option.bind_eq_bind, Option.bind_eq_some_iff, Prod.exists, Option.some.injEq, Prod.mk.injEq]
  constructor
  · rintro ⟨d, w, E', ⟨x, w', E1, h1, d', h2, ⟨rfl, rfl⟩, rfl⟩, p⟩
    exact ⟨x, w', E1, h1, d', h2, p⟩
  · rintro ⟨x, w', E1, h1, d', h2, p⟩
    exact ⟨d', .deep, E1, ⟨x, w', E1, h1, d', h2, by simp, rfl⟩, p⟩
theorem EV_op2 {o a b E P} : EV Φ (.op2 o a b) E P ↔ EV Φ a E fun x E1 => brw a (wr b) x = true ∧ EV Φ b E1 fun y E2 => ∃ d, app2 o x.1 y.1 = some d ∧ P (d, .deep) E2 := by
  unfold EV
  simp only [ev, Option.bind_eq_bind, Option.bind_eq_some_iff, Prod.exists]
  constructor
  · rintro ⟨d, w, E', ⟨x, w', E1, h1, h2⟩, p⟩
    split at h2
    · rename_i hb
      simp only [Option.bind_eq_some_iff, Prod.exists, Option.some.injEq, Prod.mk.injEq] at h2
      obtain ⟨y, u, E2, h3, d', h4, ⟨rfl, rfl⟩, rfl⟩ := h2
      exact ⟨x, w', E1, h1, hb, y, u, E2, h3, d', h4, p⟩
    · cases h2
  · rintro ⟨x, w', E1, h1, hb, y, u, E2, h3, d', h4, p⟩
    refine ⟨d', .deep, E2, ⟨x, w', E1, h1, ?_⟩, p⟩
    rw [if_pos hb]
    simp only [Option.bind_eq_some_iff, Prod.exists, Option.some.injEq, Prod.mk.injEq]
    exact ⟨y, u, E2, h3, d', h4, by simp, rfl⟩
theorem EV_ix {a b E P} : EV Φ (.ix a b) E P ↔ EV Φ a E fun x E1 => brw a (wr b) x = true ∧ EV Φ b E1 fun y E2 => ∃ d, item x.1 y.1 = some d ∧ P (vl d (kid x.2)) E2 := by
  unfold EV
  simp only [ev, Option.bind_eq_bind, Option.bind_eq_some_iff, Prod.exists]
  constructor
  · rintro ⟨d, w, E', ⟨x, w', E1, h1, h2⟩, p⟩
    split at h2
    · rename_i hb
      simp only [Option.bind_eq_some_iff, Prod.exists, Option.some.injEq, Prod.mk.injEq] at h2
      obtain ⟨y, u, E2, h3, d', h4, e1, rfl⟩ := h2
      exact ⟨x, w', E1, h1, hb, y, u, E2, h3, d', h4, by rw [e1]; exact p⟩
    · cases h2
  · rintro ⟨x, w', E1, h1, hb, y, u, E2, h3, d', h4, p⟩
    refine ⟨(vl d' (kid w')).1, (vl d' (kid w')).2, E2, ⟨x, w', E1, h1, ?_⟩, p⟩
    rw [if_pos hb]
    simp only [Option.bind_eq_some_iff, Prod.exists, Option.some.injEq, Prod.mk.injEq]
    exact ⟨y, u, E2, h3, d', h4, rfl, rfl⟩
theorem EVs_nil {E P} : EVs Φ [] E P ↔ P [] E := by unfold EVs; simp only [evs]; exact ex2
theorem EVs_cons {e es E P} : EVs Φ (e :: es) E P ↔ EV Φ e E fun x E1 => EVs Φ es (esc e x E1).2 fun xs E2 => P ((esc e x E1).1 :: xs) E2 := by
  unfold EVs EV
  simp only [evs, Option.bind_eq_bind, Option.bind_eq_some_iff, Prod.exists, Option.some.injEq, Prod.mk.injEq]
  constructor
  · rintro ⟨l, E', ⟨x, w, E1, h1, xs, E2, h2, rfl, rfl⟩, p⟩
    exact ⟨x, w, E1, h1, xs, E2, h2, p⟩
  · rintro ⟨x, w, E1, h1, xs, E2, h2, p⟩
    exact ⟨_, _, ⟨x, w, E1, h1, xs, E2, h2, rfl, rfl⟩, p⟩
theorem EV_tup {es E P} : EV Φ (.tup es) E P ↔ EVs Φ es E fun xs E1 => P (mkTup xs) E1 := by
  unfold EVs EV
  simp only [ev, Option.bind_eq_bind, Option.bind_eq_some_iff, Prod.exists, Option.some.injEq, Prod.mk.injEq]
  constructor
  · rintro ⟨d, w, E', ⟨xs, E1, h1, e, rfl⟩, p⟩
    exact ⟨xs, E1, h1, by rw [e]; exact p⟩
  · rintro ⟨xs, E1, h1, p⟩
    exact ⟨_, _, _, ⟨xs, E1, h1, rfl, rfl⟩, p⟩
theorem EV_lst {es E P} : EV Φ (.lst es) E P ↔ EVs Φ es E fun xs E1 => P (mkLst xs) E1 := by
  unfold EVs EV
  simp only [ev, Option.bind_eq_bind, Option.bind_eq_some_iff, Prod.exists, Option.some.injEq, Prod.mk.injEq]
  constructor
  · rintro ⟨d, w, E', ⟨xs, E1, h1, e, rfl⟩, p⟩
    exact ⟨xs, E1, h1, by rw [e]; exact p⟩
  · rintro ⟨xs, E1, h1, p⟩
    exact ⟨_, _, _, ⟨xs, E1, h1, rfl, rfl⟩, p⟩
theorem EV_and {a b E P} : EV Φ (.and a b) E P ↔ EV Φ a E fun x E1 => (x.1 = .bl true ∧ EV Φ b E1 fun y E2 => ∃ c, y.1 = .bl c ∧ P (.bl c, .deep) E2) ∨ (x.1 = .bl false ∧ P (.bl false, .deep) E1) := by
  unfold EV
  simp only [ev, Option.bind_eq_bind, Option.bind_eq_some_iff, Prod.exists]
  constructor
  · rintro ⟨d, w, E', ⟨x, w', E1, h1, h2⟩, p⟩
    refine ⟨x, w', E1, h1, ?_⟩
    cases x with
    | bl k =>
      cases k with
      | true =>
        simp only [Option.bind_eq_some_iff, Prod.exists] at h2
        obtain ⟨y, u, E2, h3, h4⟩ := h2
        cases y with
        | bl c =>
          simp only [Option.some.injEq, Prod.mk.injEq] at h4
          obtain ⟨⟨rfl, rfl⟩, rfl⟩ := h4
          exact .inl ⟨rfl, _, _, _, h3, c, rfl, p⟩
        | _ => cases h4
      | false =>
        simp only [Option.some.injEq, Prod.mk.injEq] at h2
        obtain ⟨⟨rfl, rfl⟩, rfl⟩ := h2
        exact .inr ⟨rfl, p⟩
    | _ => cases h2
  · rintro ⟨x, w', E1, h1, h2⟩
    rcases h2 with ⟨rfl, y, u, E2, h3, c, rfl, p⟩ | ⟨rfl, p⟩
    · exact ⟨_, _, _, ⟨_, _, _, h1, by simp only [Option.bind_eq_some_iff, Prod.exists]; exact ⟨_, _, _, h3, rfl⟩⟩, p⟩
    · exact ⟨_, _, _, ⟨_, _, _, h1, rfl⟩, p⟩
theorem EV_or {a b E P} : EV Φ (.or a b) E P ↔ EV Φ a E fun x E1 => (x.1 = .bl false ∧ EV Φ b E1 fun y E2 => ∃ c, y.1 = .bl c ∧ P (.bl c, .deep) E2) ∨ (x.1 = .bl true ∧ P (.bl true, .deep) E1) := by
  unfold EV
  simp only [ev, Option.bind_eq_bind, Option.bind_eq_some_iff, Prod.exists]
  constructor
  · rintro ⟨d, w, E', ⟨x, w', E1, h1, h2⟩, p⟩
    refine ⟨x, w', E1, h1, ?_⟩
    cases x with
    | bl k =>
      cases k with
      | false =>
        simp only [Option.bind_eq_some_iff, Prod.exists] at h2
        obtain ⟨y, u, E2, h3, h4⟩ := h2
        cases y with
        | bl c =>
          simp only [Option.some.injEq, Prod.mk.injEq] at h4
          obtain ⟨⟨rfl, rfl⟩, rfl⟩ := h4
          exact .inl ⟨rfl, _, _, _, h3, c, rfl, p⟩
        | _ => cases h4
      | true =>
        simp only [Option.some.injEq, Prod.mk.injEq] at h2
        obtain ⟨⟨rfl, rfl⟩, rfl⟩ := h2
        exact .inr ⟨rfl, p⟩
    | _ => cases h2
  · rintro ⟨x, w', E1, h1, h2⟩
    rcases h2 with ⟨rfl, y, u, E2, h3, c, rfl, p⟩ | ⟨rfl, p⟩
    · exact ⟨_, _, _, ⟨_, _, _, h1, by simp only [Option.bind_eq_some_iff, Prod.exists]; exact ⟨_, _, _, h3, rfl⟩⟩, p⟩
    · exact ⟨_, _, _, ⟨_, _, _, h1, rfl⟩, p⟩
theorem EV_ife {c a b E P} : EV Φ (.ife c a b) E P ↔ EV Φ c E fun x E1 => (x.1 = .bl true ∧ EV Φ a E1 fun y E2 => P (esc a y E2).1 (esc a y E2).2) ∨ (x.1 = .bl false ∧ EV Φ b E1 fun y E2 => P (esc b y E2).1 (esc b y E2).2) := by
  unfold EV
  simp only [ev, Option.bind_eq_bind, Option.bind_eq_some_iff, Prod.exists]
  constructor
  · rintro ⟨d, w, E', ⟨x, w', E1, h1, h2⟩, p⟩
    refine ⟨x, w', E1, h1, ?_⟩
    cases x with
    | bl k =>
      cases k with
      | true =>
        simp only [Option.bind_eq_some_iff, Prod.exists] at h2
        obtain ⟨y, u, E2, h3, h4⟩ := h2
        simp only [Option.some.injEq] at h4
        exact .inl ⟨rfl, _, _, _, h3, by rw [h4]; exact p⟩
      | false =>
        simp only [Option.bind_eq_some_iff, Prod.exists] at h2
        obtain ⟨y, u, E2, h3, h4⟩ := h2
        simp only [Option.some.injEq] at h4
        exact .inr ⟨rfl, _, _, _, h3, by rw [h4]; exact p⟩
    | _ => cases h2
  · rintro ⟨x, w', E1, h1, h2⟩
    rcases h2 with ⟨rfl, y, u, E2, h3, p⟩ | ⟨rfl, y, u, E2, h3, p⟩
    · exact ⟨_, _, _, ⟨_, _, _, h1, by simp only [Option.bind_eq_some_iff, Prod.exists]; exact ⟨_, _, _, h3, rfl⟩⟩, p⟩
    · exact ⟨_, _, _, ⟨_, _, _, h1, by simp only [Option.bind_eq_some_iff, Prod.exists]; exact ⟨_, _, _, h3, rfl⟩⟩, p⟩
/- statements -/
theorem EX_skip {E N R} : EX Φ .skip E N R ↔ N E := by simp [EX, ex]
theorem EX_seq {a b E N R} : EX Φ (.seq a b) E N R ↔ EX Φ a E (fun E1 => EX Φ b E1 N R) R := by
  unfold EX
  simp only [ex]
  cases ex Φ a E with
  | none => simp
  | some o => cases o <;> simp
theorem EX_setv {i e E N R} : EX Φ (.set (.v i) e) E N R ↔ EV Φ e E fun x E1 => N ((esc e x E1).2.set i (some (esc e x E1).1)) := by
  unfold EX EV
  simp only [ex, Option.bind_eq_bind, Option.bind_eq_some_iff, Prod.exists, bindT, Option.some.injEq]
  constructor
  · rintro ⟨o, ⟨x, w, E1, h1, E2, rfl, rfl⟩, p⟩
    exact ⟨x, w, E1, h1, p⟩
  · rintro ⟨x, w, E1, h1, p⟩
    exact ⟨_, ⟨x, w, E1, h1, _, rfl, rfl⟩, p⟩
theorem EX_setT {is e E N R} : EX Φ (.set (.t is) e) E N R ↔ EV Φ e E fun x E1 => ∃ E2, bindT (.t is) (esc e x E1).1 (esc e x E1).2 = some E2 ∧ N E2 := by
  unfold EX EV
  simp only [ex, Option.bind_eq_bind, Option.bind_eq_some_iff, Prod.exists, Option.some.injEq]
  constructor
  · rintro ⟨o, ⟨x, w, E1, h1, E2, h2, rfl⟩, p⟩
    exact ⟨x, w, E1, h1, E2, h2, p⟩
  · rintro ⟨x, w, E1, h1, E2, h2, p⟩
    exact ⟨_, ⟨x, w, E1, h1, E2, h2, rfl⟩, p⟩
theorem EX_expr {e E N R} : EX Φ (.expr e) E N R ↔ EV Φ e E fun _ E1 => N E1 := by
  unfold EX EV
  simp only [ex, Option.bind_eq_bind, Option.bind_eq_some_iff, Prod.exists, Option.some.injEq]
  constructor
  · rintro ⟨o, ⟨x, w, E1, h1, rfl⟩, p⟩
    exact ⟨x, w, E1, h1, p⟩
  · rintro ⟨x, w, E1, h1, p⟩
    exact ⟨_, ⟨x, w, E1, h1, rfl⟩, p⟩
theorem EX_ite {c a b E N R} : EX Φ (.ite c a b) E N R ↔ EV Φ c E fun x E1 => (x.1 = .bl true ∧ EX Φ a E1 N R) ∨ (x.1 = .bl false ∧ EX Φ b E1 N R) := by
  unfold EX EV
  simp only [ex, Option.bind_eq_bind, Option.bind_eq_some_iff, Prod.exists]
  constructor
  · rintro ⟨o, ⟨x, w, E1, h1, h2⟩, p⟩
    refine ⟨x, w, E1, h1, ?_⟩
    cases x with
    | bl k => cases k <;> simp_all
    | _ => cases h2
  · rintro ⟨x, w, E1, h1, h2⟩
    rcases h2 with ⟨rfl, o, h2, p⟩ | ⟨rfl, o, h2, p⟩
    · exact ⟨o, ⟨_, _, _, h1, h2⟩, p⟩
    · exact ⟨o, ⟨_, _, _, h1, h2⟩, p⟩
theorem EX_retn {E N R} : EX Φ .retn E N R ↔ R (.non, .deep) E := by simp [EX, ex]
theorem EX_retv {i E N R} : EX Φ (.ret (.var i)) E N R ↔ ∃ x, E[i]? = some (some x) ∧ R x (if plain x.1 then E else E.set i none) := by
  unfold EX
  simp only [ex]
  cases E[i]? with
  | none => simp
  | some o => cases o <;> simp
theorem EX_ret {e E N R} (h : ∀ i, e ≠ .var i := by intro i z; cases z) : EX Φ (.ret e) E N R ↔ EV Φ e E fun x E1 => R (esc e x E1).1 (esc e x E1).2 := by
  unfold EX EV
  have e0 : ex Φ (.ret e) E = (do
    let (x, E) ← ev Φ e E
    let (x, E) := esc e x E
    some (.rt x E)) := by
    cases e <;> first | rfl | exact absurd rfl (h _)
  rw [e0]
  simp only [Option.bind_eq_bind, Option.bind_eq_some_iff, Prod.exists, Option.some.injEq]
  constructor
  · rintro ⟨o, ⟨x, w, E1, h1, rfl⟩, p⟩
    exact ⟨x, w, E1, h1, p⟩
  · rintro ⟨x, w, E1, h1, p⟩
    exact ⟨_, ⟨x, w, E1, h1, rfl⟩, p⟩
end
end BS

set_option Elab.async false
set_option linter.all false
set_option maxRecDepth 100000
set_option maxHeartbeats 2000000
namespace BS
open PySem
section
variable {Φ : Phi}
/- calls -/
theorem EVa_nil {E P} : EVa Φ [] E P ↔ P [] E := by unfold EVa; simp only [eva]; exact ex2
theorem EVa_io {i es E P} : EVa Φ (.io i :: es) E P ↔ ∃ x, E[i]? = some (some x) ∧ EVa Φ es E fun xs E1 => P (.inr i :: xs) E1 := by
  unfold EVa
  simp only [eva]
  cases E[i]? with
  | none => simp
  | some o =>
    cases o with
    | none => simp
    | some y =>
      simp only [Option.bind_eq_bind, Option.bind_eq_some_iff, Prod.exists, Option.some.injEq, Prod.mk.injEq]
      constructor
      · rintro ⟨l, E', ⟨xs, E1, h1, rfl, rfl⟩, p⟩
        exact ⟨y.1, y.2, rfl, xs, E1, h1, p⟩
      · rintro ⟨_, _, _, xs, E1, h1, p⟩
        exact ⟨_, _, ⟨xs, E1, h1, rfl, rfl⟩, p⟩
def isIo : Ex → Bool
  | .io _ => true
  | _ => false
theorem EVa_cons {e es E P} (h : isIo e = false) : EVa Φ (e :: es) E P ↔ EV Φ e E fun x E1 => EVa Φ es (esc e x E1).2 fun xs E2 => P (.inl (esc e x E1).1 :: xs) E2 := by
  have e0 : eva Φ (e :: es) E = (do
    let (x, E) ← ev Φ e E
    let (x, E) := esc e x E
    let (xs, E) ← eva Φ es E
    some (.inl x :: xs, E)) := by
    cases e <;> first | rfl | simp [isIo] at h
  unfold EVa EV
  rw [e0]
  simp only [Option.bind_eq_bind, Option.bind_eq_some_iff, Prod.exists, Option.some.injEq, Prod.mk.injEq]
  constructor
  · rintro ⟨l, E', ⟨x, w, E1, h1, xs, E2, h2, rfl, rfl⟩, p⟩
    exact ⟨x, w, E1, h1, xs, E2, h2, p⟩
  · rintro ⟨x, w, E1, h1, xs, E2, h2, p⟩
    exact ⟨_, _, ⟨x, w, E1, h1, xs, E2, h2, rfl, rfl⟩, p⟩
/-- the def's answer -/
def CL (Φ : Phi) (g : Nat) (vs : List Val) (P : Val → List (Option Val) → Prop) : Prop := ∃ r os, Φ g vs = some (r, os) ∧ P r os
def GA (as : List Ar) (E : En) (P : List Val → En → Prop) : Prop := ∃ vs E2, gat as E = some (vs, E2) ∧ P vs E2
theorem GA_nil {E P} : GA [] E P ↔ P [] E := by unfold GA; simp only [gat]; exact ex2
theorem GA_inl {x as E P} : GA (.inl x :: as) E P ↔ GA as E fun vs E2 => P (x :: vs) E2 := by
  unfold GA
  simp only [gat, Option.bind_eq_bind, Option.bind_eq_some_iff, Prod.exists, Option.some.injEq, Prod.mk.injEq]
  constructor
  · rintro ⟨l, E', ⟨xs, E1, h1, rfl, rfl⟩, p⟩
    exact ⟨xs, E1, h1, p⟩
  · rintro ⟨xs, E1, h1, p⟩
    exact ⟨_, _, ⟨xs, E1, h1, rfl, rfl⟩, p⟩
theorem GA_inr {i as E P} : GA (.inr i :: as) E P ↔ ∃ x, E[i]? = some (some x) ∧ GA as (E.set i none) fun vs E2 => P (x :: vs) E2 := by
  unfold GA
  simp only [gat]
  cases E[i]? with
  | none => simp
  | some o =>
    cases o with
    | none => simp
    | some y =>
      simp only [Option.bind_eq_bind, Option.bind_eq_some_iff, Prod.exists, Option.some.injEq, Prod.mk.injEq]
      constructor
      · rintro ⟨l, E', ⟨xs, E1, h1, rfl, rfl⟩, p⟩
        exact ⟨y.1, y.2, rfl, xs, E1, h1, p⟩
      · rintro ⟨_, _, rfl, xs, E1, h1, p⟩
        exact ⟨_, _, ⟨xs, E1, h1, rfl, rfl⟩, p⟩
theorem EV_call {g es E P} : EV Φ (.call g es) E P ↔ EVa Φ es E fun as E1 => GA as E1 fun vs E2 => CL Φ g vs fun r os => P r (scat as os E2) := by
  unfold EV EVa GA CL
  simp only [ev, callG, Option.bind_eq_bind, Option.bind_eq_some_iff, Prod.exists, Option.some.injEq, Prod.mk.injEq]
  constructor
  · rintro ⟨d, w, E', ⟨as, E1, h1, vs, E2, h2, r, u, os, h3, ⟨rfl, rfl⟩, rfl⟩, p⟩
    exact ⟨as, E1, h1, vs, E2, h2, r, u, os, h3, p⟩
  · rintro ⟨as, E1, h1, vs, E2, h2, r, u, os, h3, p⟩
    exact ⟨_, _, _, ⟨as, E1, h1, vs, E2, h2, r, u, os, h3, ⟨rfl, rfl⟩, rfl⟩, p⟩
theorem CL_of {g vs r os P} (h : Φ g vs = some (r, os)) : CL Φ g vs P ↔ P r os := by
  unfold CL
  rw [h]
  exact ex2
theorem CL.imp {g vs P Q} (h : CL Φ g vs P) (k : ∀ r os, P r os → Q r os) : CL Φ g vs Q := let ⟨r, os, a, b⟩ := h; ⟨r, os, a, k _ _ b⟩
/-- a def's body -/
theorem CL_def {tab : Nat → Option Def} {n g : Nat} {d : Def} {vs P} (ht : tab g = some d) (hl : vs.length = d.np) (h : EX (call tab n) d.body (vs.map some ++ List.replicate (d.ns - d.np) none) (fun E => P (.non, .deep) (outs d E)) (fun x E => P x (outs d E))) : CL (call tab (n + 1)) g vs P := by
  obtain ⟨o, h1, h2⟩ := h
  unfold CL
  simp only [call, ht, callD, hl, if_true]
  rw [h1]
  cases o with
  | nx E => exact ⟨_, _, rfl, h2⟩
  | rt x E => exact ⟨_, _, rfl, h2⟩
/- slices, list(..), + of lists -/
theorem EV_sl {a b c E P} : EV Φ (.sl a b c) E P ↔ EV Φ a E fun x E1 => brw a (wr b ++ wr c) (kesc a x E1).1 = true ∧ EV Φ b (kesc a x E1).2 fun l E2 => EV Φ c E2 fun h E3 => ∃ lo hi r, sliceI b l.1 = some lo ∧ sliceI c h.1 = some hi ∧ slD lo hi (kesc a x E1).1.1 (kesc a x E1).1.2 = some r ∧ P r E3 := by
  unfold EV
  simp only [ev, Option.bind_eq_bind, Option.bind_eq_some_iff, Prod.exists]
  constructor
  · rintro ⟨d, w, E', ⟨x, w', E1, h1, h2⟩, p⟩
    split at h2
    · rename_i hb
      simp only [Option.bind_eq_some_iff, Prod.exists, Option.some.injEq, Prod.mk.injEq] at h2
      obtain ⟨l, lw, E2, h3, h, hw, E3, h4, lo, h5, hi, h6, r, rw', h7, e1, rfl⟩ := h2
      exact ⟨x, w', E1, h1, hb, l, lw, E2, h3, h, hw, E3, h4, lo, hi, r, rw', h5, h6, h7, by rw [e1.1, e1.2]; exact p⟩
    · cases h2
  · rintro ⟨x, w', E1, h1, hb, l, lw, E2, h3, h, hw, E3, h4, lo, hi, r, rw', h5, h6, h7, p⟩
    refine ⟨r, rw', E3, ⟨x, w', E1, h1, ?_⟩, p⟩
    rw [if_pos hb]
    simp only [Option.bind_eq_some_iff, Prod.exists, Option.some.injEq, Prod.mk.injEq]
    exact ⟨l, lw, E2, h3, h, hw, E3, h4, lo, h5, hi, h6, r, rw', h7, ⟨rfl, rfl⟩, rfl⟩
def listD : Val → Option Val
  | (.lst xs, w) => some (newLst xs w)
  | (.tup xs, w) => some (newLst xs w)
  | _ => none
theorem EV_list {a E P} : EV Φ (.opP .list a) E P ↔ EV Φ a E fun x E1 => ∃ r, listD (kesc a x E1).1 = some r ∧ P r (kesc a x E1).2 := by
  unfold EV
  simp only [ev, Option.bind_eq_bind, Option.bind_eq_some_iff, Prod.exists]
  constructor
  · rintro ⟨d, w, E', ⟨x, w', E1, h1, h2⟩, p⟩
    refine ⟨x, w', E1, h1, ?_⟩
    generalize kesc a (x, w') E1 = k at *
    obtain ⟨⟨kd, kw⟩, E2⟩ := k
    cases kd <;> cases h2
    · exact ⟨_, _, rfl, p⟩
    · exact ⟨_, _, rfl, p⟩
  · rintro ⟨x, w', E1, h1, r, rw', h2, p⟩
    refine ⟨r, rw', (kesc a (x, w') E1).2, ⟨x, w', E1, h1, ?_⟩, p⟩
    generalize kesc a (x, w') E1 = k at *
    obtain ⟨⟨kd, kw⟩, E2⟩ := k
    cases kd <;> simp [listD] at h2 ⊢ <;> exact h2
def catD : Val → Val → Option Val
  | (.lst xs, w), (.lst ys, u) =>
    if xs.length + ys.length ≤ line ∧ ((w = .deep ∧ u = .deep) ∨ ((w ≠ .deep ∨ plains xs = true) ∧ (u ≠ .deep ∨ plains ys = true))) then
      some (newLst (xs ++ ys) (if w = .deep ∧ u = .deep then .deep else .sh)) else none
  | _, _ => none
theorem EV_cat {a b E P} : EV Φ (.cat a b) E P ↔ EV Φ a E fun x E1 => brw a (wr b) (kesc a x E1).1 = true ∧ EV Φ b (kesc a x E1).2 fun y E2 => ∃ r, catD (kesc a x E1).1 (kesc b y E2).1 = some r ∧ P r (kesc b y E2).2 := by
  unfold EV
  simp only [ev, Option.bind_eq_bind, Option.bind_eq_some_iff, Prod.exists]
  constructor
  · rintro ⟨d, w, E', ⟨x, w', E1, h1, h2⟩, p⟩
    split at h2
    · rename_i hb
      simp only [Option.bind_eq_some_iff, Prod.exists] at h2
      obtain ⟨y, u, E2, h3, h4⟩ := h2
      refine ⟨x, w', E1, h1, hb, y, u, E2, h3, ?_⟩
      generalize kesc a (x, w') E1 = k at *
      generalize kesc b (y, u) E2 = l at *
      obtain ⟨⟨kd, kw⟩, E3⟩ := k
      obtain ⟨⟨ld, lw⟩, E4⟩ := l
      cases kd <;> cases ld <;> simp only [reduceCtorEq] at h4
      split at h4
      · rename_i hc
        simp only [Option.some.injEq, Prod.mk.injEq] at h4
        obtain ⟨e1, rfl⟩ := h4
        exact ⟨_, _, by simp only [catD]; rw [if_pos hc], by rw [e1]; exact p⟩
      · cases h4
    · cases h2
  · rintro ⟨x, w', E1, h1, hb, y, u, E2, h3, r, rw', h4, p⟩
    refine ⟨r, rw', (kesc b (y, u) E2).2, ⟨x, w', E1, h1, ?_⟩, p⟩
    rw [if_pos hb]
    simp only [Option.bind_eq_some_iff, Prod.exists]
    refine ⟨y, u, E2, h3, ?_⟩
    generalize kesc a (x, w') E1 = k at *
    generalize kesc b (y, u) E2 = l at *
    obtain ⟨⟨kd, kw⟩, E3⟩ := k
    obtain ⟨⟨ld, lw⟩, E4⟩ := l
    cases kd <;> cases ld <;> simp only [catD, reduceCtorEq] at h4
    split at h4
    · rename_i hc
      simp only [Option.some.injEq] at h4
      simp only [if_pos hc, h4]
    · cases h4
/- stores -/
theorem EX_setIx {i k e E N R} : EX Φ (.setIx i k e) E N R ↔ EV Φ e E fun x E1 => ∃ z, (esc e x E1).2[i]? = some (some z) ∧ EV Φ k (esc e x E1).2 fun y E2 => ∃ r E3, chg i [] (plain (esc e x E1).1.1 || decide ((esc e x E1).1.2 = .deep)) (setD y.1 (esc e x E1).1.1) E2 = some (r, E3) ∧ N E3 := by
  unfold EX EV
  simp only [ex, Option.bind_eq_bind, Option.bind_eq_some_iff, Prod.exists]
  constructor
  · rintro ⟨o, ⟨x, w, E1, h1, h2⟩, p⟩
    refine ⟨x, w, E1, h1, ?_⟩
    generalize esc e (x, w) E1 = k at *
    obtain ⟨⟨kd, kw⟩, E2⟩ := k
    simp only at h2 ⊢
    cases hz : E2[i]? with
    | none => rw [hz] at h2; cases h2
    | some z =>
      rw [hz] at h2
      cases z with
      | none => cases h2
      | some z =>
        simp only [Option.bind_eq_some_iff, Prod.exists] at h2
        obtain ⟨y, u, E3, h3, r, rw', E4, h4, h5⟩ := h2
        simp only [Option.some.injEq] at h5
        subst h5
        exact ⟨z.1, z.2, rfl, y, u, E3, h3, r, rw', E4, h4, p⟩
  · rintro ⟨x, w, E1, h1, z, zw, hz, y, u, E3, h3, r, rw', E4, h4, p⟩
    refine ⟨.nx E4, ⟨x, w, E1, h1, ?_⟩, p⟩
    generalize esc e (x, w) E1 = k at *
    obtain ⟨⟨kd, kw⟩, E2⟩ := k
    simp only at *
    rw [hz]
    simp only [Option.bind_eq_some_iff, Prod.exists]
    exact ⟨y, u, E3, h3, r, rw', E4, h4, rfl⟩
end
end BS

set_option Elab.async false
set_option linter.all false
set_option maxRecDepth 100000
set_option maxHeartbeats 2000000
namespace BS
open PySem
section
variable {Φ : Phi}
/- what is walked -/
theorem EVi_nil {w E P} : EVi Φ w [] E P ↔ P [] E := by unfold EVi; simp only [evit]; exact ex2
/-- .. the place as it is held -/
def hold (w : List Nat) (e : Ex) (x : Val) (E : En) : Val × En := if isPl e && kplain x.1 && !isDicD x.1 && !w.contains (root e) then (x, E) else esc e x E
theorem EVi_cons {w e es E P} : EVi Φ w (e :: es) E P ↔ EV Φ e E fun x E1 => EVi Φ w es (hold w e x E1).2 fun xs E2 => P ((hold w e x E1).1 :: xs) E2 := by
  unfold EVi EV hold
  simp only [evit, Option.bind_eq_bind, Option.bind_eq_some_iff, Prod.exists, Option.some.injEq, Prod.mk.injEq]
  constructor
  · rintro ⟨l, E', ⟨x, u, E1, h1, xs, E2, h2, rfl, rfl⟩, p⟩
    exact ⟨x, u, E1, h1, xs, E2, h2, p⟩
  · rintro ⟨x, u, E1, h1, xs, E2, h2, p⟩
    exact ⟨_, _, ⟨x, u, E1, h1, xs, E2, h2, rfl, rfl⟩, p⟩
def IT (Φ : Phi) (k : Ik) (w : List Nat) (es : List Ex) (E : En) (P : List D → En → Prop) : Prop :=
  match k with
  | .rng => EVs Φ es E fun xs E1 => ∃ its, items k (ds xs) = some its ∧ P its E1
  | .zip => EVs Φ es E fun xs E1 => ∃ its, items k (ds xs) = some its ∧ P its E1
  | _ => EVi Φ w es E fun xs E1 => ∃ its, items k (ds xs) = some its ∧ P its E1
theorem IT_rng {w es E P} : IT Φ .rng w es E P ↔ EVs Φ es E fun xs E1 => ∃ its, items .rng (ds xs) = some its ∧ P its E1 := Iff.rfl
theorem IT_of {w es E P} : IT Φ .of w es E P ↔ EVi Φ w es E fun xs E1 => ∃ its, items .of (ds xs) = some its ∧ P its E1 := Iff.rfl
/-- the loop over what is left -/
def FL (Φ : Phi) (tg : Tg) (body : Ss) (its : List D) (E : En) (N : En → Prop) (R : Val → En → Prop) : Prop :=
  ∃ o, forL (fun x E => do
      let E ← bindT tg x E
      ex Φ body E) its E = some o ∧ (match o with | .nx E' => N E' | .rt x E' => R x E')
theorem EX_for {tg k es body E N R} : EX Φ (.for_ tg k es body) E N R ↔ IT Φ k (wrS body ++ tgs tg) es E fun its E1 => FL Φ tg body its E1 N R := by
  cases k <;>
  · unfold EX IT FL
    simp only [EVs, EVi, ex, Option.bind_eq_bind, Option.bind_eq_some_iff, Prod.exists]
    constructor
    · rintro ⟨o, ⟨xs, E1, h1, its, h2, h3⟩, p⟩
      exact ⟨xs, E1, h1, its, h2, o, h3, p⟩
    · rintro ⟨xs, E1, h1, its, h2, o, h3, p⟩
      exact ⟨o, ⟨xs, E1, h1, its, h2, h3⟩, p⟩
theorem FL_nil {tg body E N R} : FL Φ tg body [] E N R ↔ N E := by unfold FL; simp [forL]
theorem FL_cons {tg body d its E N R} : FL Φ tg body (d :: its) E N R ↔ ∃ E1, bindT tg (shv d) E = some E1 ∧ EX Φ body E1 (fun E2 => FL Φ tg body its E2 N R) R := by
  unfold FL EX
  simp only [forL, Option.bind_eq_bind]
  cases bindT tg (shv d) E with
  | none => simp
  | some E1 =>
    simp only [Option.bind_some, Option.some.injEq, exists_eq_left']
    cases ex Φ body E1 with
    | none => simp
    | some o => cases o <;> simp
/-- the loop by an invariant over what is left and what is done -/
theorem FL_inv {tg body its E N R} (I : List D → List D → En → Prop) (h0 : I [] its E)
    (hs : ∀ a d b E, I a (d :: b) E → its = a ++ d :: b → ∃ E1, bindT tg (shv d) E = some E1 ∧ EX Φ body E1 (fun E2 => I (a ++ [d]) b E2) R)
    (hN : ∀ E, I its [] E → N E) : FL Φ tg body its E N R := by
  have key : ∀ (b a : List D) (E : En), its = a ++ b → I a b E → FL Φ tg body b E N R := by
    intro b
    induction b with
    | nil =>
      intro a E e h
      rw [List.append_nil] at e
      subst e
      exact FL_nil.mpr (hN E h)
    | cons d b ih =>
      intro a E e h
      obtain ⟨E1, h1, h2⟩ := hs a d b E h e
      exact FL_cons.mpr ⟨E1, h1, h2.imp (fun E2 h3 => ih (a ++ [d]) E2 (by rw [e]; simp) h3) fun _ _ z => z⟩
  exact key its [] E rfl h0
/-- a list comprehension over what is left -/
def CP (Φ : Phi) (shr : Bool) (elt : Ex) (tg : Tg) (cond : Ex) (its : List D) (E : En) (acc : List D) (P : List D → En → Prop) : Prop :=
  ∃ r E1, compL (fun x E => do
        let E ← bindT tg x (wipes (tgs tg) E)
        let (c, E) ← ev Φ cond E
        match c.1 with
        | .bl true => do
          let (y, E) ← ev Φ elt E
          let (y, E) := esc elt y E
          if plain y.1 || shr || decide (y.2 = .deep) then some (some y, E) else none
        | .bl false => some (none, E)
        | _ => none) its E acc = some (r, E1) ∧ P r E1
theorem EV_comp {shr elt tg k es cond E P} : EV Φ (.comp shr elt tg k es cond) E P ↔ IT Φ k (tgs tg ++ (wrx elt ++ wr cond)) es E fun its E1 => (its.length ≤ line ∧ keepable (tgs tg) E1 = true) ∧ CP Φ shr elt tg cond its E1 [] fun acc E2 => P (.lst acc, if shr && !plains acc then .top else .deep) (back (tgs tg) E1 E2) := by
  cases k <;>
  · unfold EV IT CP
    simp only [EVs, EVi, ev, Option.bind_eq_bind, Option.bind_eq_some_iff, Prod.exists]
    constructor
    · rintro ⟨d, w, E', ⟨xs, E1, h1, its, h2, h3⟩, p⟩
      split at h3
      · rename_i hc
        simp only [Option.bind_eq_some_iff, Prod.exists, Option.some.injEq, Prod.mk.injEq] at h3
        obtain ⟨acc, E2, h4, ⟨rfl, rfl⟩, rfl⟩ := h3
        exact ⟨xs, E1, h1, its, h2, hc, acc, E2, h4, p⟩
      · cases h3
    · rintro ⟨xs, E1, h1, its, h2, hc, acc, E2, h4, p⟩
      refine ⟨_, _, _, ⟨xs, E1, h1, its, h2, ?_⟩, p⟩
      rw [if_pos hc]
      simp only [Option.bind_eq_some_iff, Prod.exists, Option.some.injEq, Prod.mk.injEq]
      exact ⟨acc, E2, h4, ⟨rfl, rfl⟩, rfl⟩
theorem CP_nil {shr elt tg cond E acc P} : CP Φ shr elt tg cond [] E acc P ↔ P acc E := by unfold CP; simp only [compL]; exact ex2
theorem CP_cons {shr elt tg cond d its E acc P} (h : ∃ E1, bindT tg (shv d) (wipes (tgs tg) E) = some E1 ∧ EV Φ cond E1 fun c E2 => (c.1 = .bl true ∧ EV Φ elt E2 fun y E3 => (plain (esc elt y E3).1.1 || shr || decide ((esc elt y E3).1.2 = .deep)) = true ∧ CP Φ shr elt tg cond its (esc elt y E3).2 (acc ++ [(esc elt y E3).1.1]) P) ∨ (c.1 = .bl false ∧ CP Φ shr elt tg cond its E2 acc P)) :
    CP Φ shr elt tg cond (d :: its) E acc P := by
  obtain ⟨E1, h1, c, E2, h2, h3⟩ := h
  obtain ⟨cd, cw⟩ := c
  rcases h3 with ⟨rfl, y, E3, h4, h5, h6⟩ | ⟨rfl, h6⟩
  · unfold CP at h6 ⊢
    simp only [compL, h1, h2, Option.bind_eq_bind, Option.bind_some, h4]
    rw [if_pos h5]
    exact h6
  · unfold CP at h6 ⊢
    simp only [compL, h1, h2, Option.bind_eq_bind, Option.bind_some]
    exact h6
theorem CP_inv {shr elt tg cond its E P} (I : List D → List D → List D → En → Prop) (h0 : I [] its [] E)
    (hs : ∀ a d b acc E, I a (d :: b) acc E → its = a ++ d :: b → ∃ E1, bindT tg (shv d) (wipes (tgs tg) E) = some E1 ∧ EV Φ cond E1 fun c E2 => (c.1 = .bl true ∧ EV Φ elt E2 fun y E3 => (plain (esc elt y E3).1.1 || shr || decide ((esc elt y E3).1.2 = .deep)) = true ∧ I (a ++ [d]) b (acc ++ [(esc elt y E3).1.1]) (esc elt y E3).2) ∨ (c.1 = .bl false ∧ I (a ++ [d]) b acc E2))
    (hN : ∀ acc E, I its [] acc E → P acc E) : CP Φ shr elt tg cond its E [] P := by
  have key : ∀ (b a acc : List D) (E : En), its = a ++ b → I a b acc E → CP Φ shr elt tg cond b E acc P := by
    intro b
    induction b with
    | nil =>
      intro a acc E e h
      rw [List.append_nil] at e
      subst e
      exact CP_nil.mpr (hN acc E h)
    | cons d b ih =>
      intro a acc E e h
      obtain ⟨E1, h1, h2⟩ := hs a d b acc E h e
      refine CP_cons ⟨E1, h1, h2.imp fun c E2 h3 => ?_⟩
      rcases h3 with ⟨hc, h4⟩ | ⟨hc, h4⟩
      · exact .inl ⟨hc, h4.imp fun y E3 ⟨h5, h6⟩ => ⟨h5, ih _ _ _ (by rw [e]; simp) h6⟩⟩
      · exact .inr ⟨hc, ih _ _ _ (by rw [e]; simp) h4⟩
  exact key its [] [] E rfl h0
end
end BS

set_option Elab.async false
set_option linter.all false
set_option maxRecDepth 100000
set_option maxHeartbeats 2000000
/-! Steps by simp: each rule's continuation stands under a lambda, and is not looked at ahead of its turn. -/
namespace BS
open PySem L2
/-- what simp does not look into: an argument that another one's type speaks of -/
class U {α : Type} (a : α) : Type where
instance instU {α : Type} (a : α) : U a := ⟨⟩
namespace W
def EV (Φ : Phi) (e : Ex) (E : En) (P : Val → En → Prop) [U P] : Prop := BS.EV Φ e E P
def EVs (Φ : Phi) (e : List Ex) (E : En) (P : List Val → En → Prop) [U P] : Prop := BS.EVs Φ e E P
def EVi (Φ : Phi) (w : List Nat) (e : List Ex) (E : En) (P : List Val → En → Prop) [U P] : Prop := BS.EVi Φ w e E P
def EVa (Φ : Phi) (e : List Ex) (E : En) (P : List Ar → En → Prop) [U P] : Prop := BS.EVa Φ e E P
def EX (Φ : Phi) (s : Ss) (E : En) (N : En → Prop) (R : Val → En → Prop) [U N] [U R] : Prop := BS.EX Φ s E N R
def CL (Φ : Phi) (g : Nat) (vs : List Val) (P : Val → List (Option Val) → Prop) [U P] : Prop := BS.CL Φ g vs P
def GA (as : List Ar) (E : En) (P : List Val → En → Prop) [U P] : Prop := BS.GA as E P
def IT (Φ : Phi) (k : Ik) (w : List Nat) (es : List Ex) (E : En) (P : List D → En → Prop) [U P] : Prop := BS.IT Φ k w es E P
def FL (Φ : Phi) (tg : Tg) (body : Ss) (its : List D) (E : En) (N : En → Prop) (R : Val → En → Prop) [U N] [U R] : Prop := BS.FL Φ tg body its E N R
def CP (Φ : Phi) (shr : Bool) (elt : Ex) (tg : Tg) (cond : Ex) (its : List D) (E : En) (acc : List D) (P : List D → En → Prop) [U P] : Prop := BS.CP Φ shr elt tg cond its E acc P
end W
/-- a slot's value -/
def GS (i : Nat) (E : En) (K : Val → Prop) [U K] : Prop := ∃ x, E[i]? = some (some x) ∧ K x
theorem GS_z {x : Val} {E : En} {K} : GS 0 (some x :: E) K ↔ K x := by simp [GS]
theorem GS_s {i : Nat} {a : Option Val} {E : En} {K} : GS (i + 1) (a :: E) K ↔ GS i E K := by simp [GS]
/-- a made thing, looked at -/
def OP {α : Type} (o : Option α) (K : α → Prop) [U K] : Prop := ∃ d, o = some d ∧ K d
theorem OP_some {α : Type} {d : α} {K} : OP (some d) K ↔ K d := by simp [OP]
theorem OP_ite {α : Type} {c : Prop} [Decidable c] {o : Option α} {K} : OP (if c then o else none) K ↔ c ∧ OP o K := by
  by_cases h : c <;> simp [OP, h]
theorem OP_map {α β : Type} {o : Option α} {f : α → β} {K} : OP (o.map f) K ↔ OP o fun x => K (f x) := by cases o <;> simp [OP]
theorem OP_imp {α : Type} {o : Option α} {K K' : α → Prop} (h : OP o K) (k : ∀ x, K x → K' x) : OP o K' := let ⟨x, a, b⟩ := h; ⟨x, a, k x b⟩
theorem OP_of {α : Type} {o : Option α} {d : α} {K} (h : o = some d) (k : K d) : OP o K := ⟨d, h, k⟩
/-- a slots' list, reckoned ahead -/
def PUT {α : Type} (E : α) (K : α → Prop) [U K] : Prop := K E
theorem PUT_def {α : Type} {E : α} {K : α → Prop} : PUT E K ↔ K E := Iff.rfl
def BR (d : D) (A B : Unit → Prop) [U A] [U B] : Prop := (d = .bl true ∧ A ()) ∨ (d = .bl false ∧ B ())
theorem BR_t {A B} : BR (.bl true) A B ↔ A () := by simp [BR]
theorem BR_f {A B} : BR (.bl false) A B ↔ B () := by simp [BR]
theorem BR_b {b : Bool} {A B} (h1 : b = true → A ()) (h2 : b = false → B ()) : BR (.bl b) A B := by
  cases b
  · exact BR_f.mpr (h2 rfl)
  · exact BR_t.mpr (h1 rfl)
theorem BR_d {p : Prop} [Decidable p] {A B} (h1 : p → A ()) (h2 : ¬p → B ()) : BR (.bl (decide p)) A B := BR_b (fun h => h1 (of_decide_eq_true h)) fun h => h2 (of_decide_eq_false h)
theorem BR_nd {p : Prop} [Decidable p] {A B} (h1 : ¬p → A ()) (h2 : p → B ()) : BR (.bl (!decide p)) A B := BR_b (fun h => h1 (by simpa using h)) fun h => h2 (by simpa using h)
def BO (d : D) (K : Bool → Prop) [U K] : Prop := ∃ c, d = .bl c ∧ K c
theorem BO_b {c : Bool} {K} : BO (.bl c) K ↔ K c := by simp [BO]
def ESC (e : Ex) (x : Val) (E : En) (K : Val → En → Prop) [U K] : Prop := K (esc e x E).1 (esc e x E).2
def KESC (e : Ex) (x : Val) (E : En) (K : Val → En → Prop) [U K] : Prop := K (kesc e x E).1 (kesc e x E).2
def HOLD (w : List Nat) (e : Ex) (x : Val) (E : En) (K : Val → En → Prop) [U K] : Prop := K (hold w e x E).1 (hold w e x E).2
theorem ESC_np {e x E K} (h : isPl e = false) : ESC e x E K ↔ K x E := by unfold ESC esc; simp [h]
theorem KESC_np {e x E K} (h : isPl e = false) : KESC e x E K ↔ K x E := by unfold KESC kesc; simp [h]
theorem HOLD_np {w e x E K} (h : isPl e = false) : HOLD w e x E K ↔ K x E := by unfold HOLD hold esc; simp [h]
/-- the slot's flag: all have it now -/
def shS : Nat → En → En
  | 0, some (d, _) :: E => some (d, .sh) :: E
  | 0, E => E
  | _, [] => []
  | i + 1, a :: E => a :: shS i E
theorem shS_z {d w} {E : En} : shS 0 (some (d, w) :: E) = some (d, .sh) :: E := rfl
theorem shS_s {i a} {E : En} : shS (i + 1) (a :: E) = a :: shS i E := rfl
theorem shRoot_var (i : Nat) (E : En) : shRoot (.var i) E = shS i E := by
  have key : ∀ (i : Nat) (E : En), (match E[i]? with | some (some (d, _)) => E.set i (some (d, Ow.sh)) | _ => E) = shS i E := by
    intro i
    induction i with
    | zero =>
      intro E
      cases E with
      | nil => rfl
      | cons a E =>
        cases a with
        | none => rfl
        | some x => obtain ⟨d, w⟩ := x; rfl
    | succ i ih =>
      intro E
      cases E with
      | nil => rfl
      | cons a E =>
        rw [shS_s, ← ih E]
        simp only [List.getElem?_cons_succ, List.set_cons_succ]
        cases E[i]? with
        | none => rfl
        | some x => cases x with
          | none => rfl
          | some x => obtain ⟨d, w⟩ := x; rfl
  exact key i E
/-- .. when a part of it goes elsewhere -/
def shD : Nat → En → En
  | 0, some (d, w) :: E => some (d, down d w) :: E
  | 0, E => E
  | _, [] => []
  | i + 1, a :: E => a :: shD i E
theorem shD_z {d w} {E : En} : shD 0 (some (d, w) :: E) = some (d, down d w) :: E := rfl
theorem shD_s {i a} {E : En} : shD (i + 1) (a :: E) = a :: shD i E := rfl
theorem shRoot_ix (a k : Ex) (E : En) : shRoot (.ix a k) E = shD (root a) E := by
  have key : ∀ (i : Nat) (E : En), (match E[i]? with | some (some (d, w)) => E.set i (some (d, down d w)) | _ => E) = shD i E := by
    intro i
    induction i with
    | zero =>
      intro E
      cases E with
      | nil => rfl
      | cons a E =>
        cases a with
        | none => rfl
        | some x => obtain ⟨d, w⟩ := x; rfl
    | succ i ih =>
      intro E
      cases E with
      | nil => rfl
      | cons a E =>
        rw [shD_s, ← ih E]
        simp only [List.getElem?_cons_succ, List.set_cons_succ]
        cases E[i]? with
        | none => rfl
        | some x => cases x with
          | none => rfl
          | some x => obtain ⟨d, w⟩ := x; rfl
  exact key (root a) E
/-- a value goes elsewhere out of slot i -/
def PL (b : Bool) (A B : Unit → Prop) [U A] [U B] : Prop := (b = true → A ()) ∧ (b = false → B ())
theorem PL_t {A B} : PL true A B ↔ A () := by simp [PL]
theorem PL_f {A B} : PL false A B ↔ B () := by simp [PL]
theorem ESC_var {i x E K} : ESC (.var i) x E K ↔ PL (plain x.1) (fun _ => K x E) fun _ => PUT (shS i E) fun E' => K (x.1, .sh) E' := by
  unfold ESC esc PUT
  cases h : plain x.1 <;> simp [PL, shRoot_var]
theorem ESC_ix {a k x E K} : ESC (.ix a k) x E K ↔ PL (!isPl a || plain x.1) (fun _ => K x E) fun _ => PUT (shD (root a) E) fun E' => K (x.1, .sh) E' := by
  unfold ESC esc PUT
  cases h : plain x.1 <;> cases h2 : isPl a <;> simp [PL, shRoot_ix, h2]
theorem KESC_var {i x E K} : KESC (.var i) x E K ↔ PL (kplain x.1) (fun _ => K x E) fun _ => PUT (shS i E) fun E' => K (x.1, .sh) E' := by
  unfold KESC kesc PUT
  cases h : kplain x.1 <;> simp [PL, shRoot_var]
theorem KESC_ix {a k x E K} : KESC (.ix a k) x E K ↔ PL (!isPl a || kplain x.1) (fun _ => K x E) fun _ => PUT (shD (root a) E) fun E' => K (x.1, .sh) E' := by
  unfold KESC kesc PUT
  cases h : kplain x.1 <;> cases h2 : isPl a <;> simp [PL, shRoot_ix, h2]
theorem HOLD_var {w i x E K} : HOLD w (.var i) x E K ↔ PL (kplain x.1 && !isDicD x.1 && !w.contains i) (fun _ => K x E) fun _ => ESC (.var i) x E K := by
  unfold HOLD hold ESC
  have e : (isPl (.var i) && kplain x.1 && !isDicD x.1 && !w.contains (root (.var i))) = (kplain x.1 && !isDicD x.1 && !w.contains i) := by simp
  rw [e]
  cases h : (kplain x.1 && !isDicD x.1 && !w.contains i)
  · rw [if_neg (by simp)]; rw [PL_f]
  · rw [if_pos rfl]; rw [PL_t]
theorem HOLD_ix {w a k x E K} : HOLD w (.ix a k) x E K ↔ PL (isPl a && kplain x.1 && !isDicD x.1 && !w.contains (root a)) (fun _ => K x E) fun _ => ESC (.ix a k) x E K := by
  unfold HOLD hold ESC
  have e : (isPl (.ix a k) && kplain x.1 && !isDicD x.1 && !w.contains (root (.ix a k))) = (isPl a && kplain x.1 && !isDicD x.1 && !w.contains (root a)) := by simp
  rw [e]
  cases h : (isPl a && kplain x.1 && !isDicD x.1 && !w.contains (root a))
  · rw [if_neg (by simp)]; rw [PL_f]
  · rw [if_pos rfl]; rw [PL_t]
/-- held while other things are reckoned -/
def BRW (a : Ex) (w : List Nat) (x : Val) (K : Unit → Prop) [U K] : Prop := brw a w x = true ∧ K ()
theorem BRW_np {a w x K} (h : isPl a = false) : BRW a w x K ↔ K () := by simp [BRW, brw, h]
theorem BRW_var {i w x K} : BRW (.var i) w x K ↔ (plain x.1 || !w.contains i) = true ∧ K () := by simp [BRW, brw]
theorem BRW_ix {a k w x K} : BRW (.ix a k) w x K ↔ (!isPl a || plain x.1 || !w.contains (root a)) = true ∧ K () := by simp [BRW, brw]
section
variable {Φ : Phi}
theorem W_var {i E P} : W.EV Φ (.var i) E P ↔ GS i E fun x => P x E := EV_var
theorem W_op1 {o a E P} : W.EV Φ (.op1 o a) E P ↔ W.EV Φ a E fun x E1 => OP (app1 o x.1) fun d => P (d, .deep) E1 := EV_op1
theorem W_op2 {o a b E P} : W.EV Φ (.op2 o a b) E P ↔ W.EV Φ a E fun x E1 => BRW a (wr b) x fun _ => W.EV Φ b E1 fun y E2 => OP (app2 o x.1 y.1) fun d => P (d, .deep) E2 := EV_op2
theorem W_ix {a b E P} : W.EV Φ (.ix a b) E P ↔ W.EV Φ a E fun x E1 => BRW a (wr b) x fun _ => W.EV Φ b E1 fun y E2 => OP (item x.1 y.1) fun d => PUT (vl d (kid x.2)) fun z => P z E2 := EV_ix
theorem W_nil {E P} : W.EVs Φ [] E P ↔ P [] E := EVs_nil
theorem W_cons {e es E P} : W.EVs Φ (e :: es) E P ↔ W.EV Φ e E fun x E1 => ESC e x E1 fun x E2 => W.EVs Φ es E2 fun xs E3 => P (x :: xs) E3 := EVs_cons
theorem W_tup {es E P} : W.EV Φ (.tup es) E P ↔ W.EVs Φ es E fun xs E1 => PUT (mkTup xs) fun z => P z E1 := EV_tup
theorem W_lst {es E P} : W.EV Φ (.lst es) E P ↔ W.EVs Φ es E fun xs E1 => PUT (mkLst xs) fun z => P z E1 := EV_lst
theorem W_and {a b E P} : W.EV Φ (.and a b) E P ↔ W.EV Φ a E fun x E1 => BR x.1 (fun _ => W.EV Φ b E1 fun y E2 => BO y.1 fun c => P (.bl c, .deep) E2) fun _ => P (.bl false, .deep) E1 := EV_and
theorem W_or {a b E P} : W.EV Φ (.or a b) E P ↔ W.EV Φ a E fun x E1 => BR x.1 (fun _ => P (.bl true, .deep) E1) fun _ => W.EV Φ b E1 fun y E2 => BO y.1 fun c => P (.bl c, .deep) E2 := EV_or.trans ⟨fun h => h.imp fun _ _ k => k.symm, fun h => h.imp fun _ _ k => k.symm⟩
theorem W_ife {c a b E P} : W.EV Φ (.ife c a b) E P ↔ W.EV Φ c E fun x E1 => BR x.1 (fun _ => W.EV Φ a E1 fun y E2 => ESC a y E2 P) fun _ => W.EV Φ b E1 fun y E2 => ESC b y E2 P := EV_ife
theorem W_list {a E P} : W.EV Φ (.opP .list a) E P ↔ W.EV Φ a E fun x E1 => KESC a x E1 fun x E2 => OP (listD x) fun r => P r E2 := EV_list
theorem W_cat {a b E P} : W.EV Φ (.cat a b) E P ↔ W.EV Φ a E fun x E1 => KESC a x E1 fun x E2 => BRW a (wr b) x fun _ => W.EV Φ b E2 fun y E3 => KESC b y E3 fun y E4 => OP (catD x y) fun r => P r E4 := EV_cat
theorem W_sl {a b c E P} : W.EV Φ (.sl a b c) E P ↔ W.EV Φ a E fun x E1 => KESC a x E1 fun x E2 => BRW a (wr b ++ wr c) x fun _ => W.EV Φ b E2 fun l E3 => W.EV Φ c E3 fun h E4 => OP (sliceI b l.1) fun lo => OP (sliceI c h.1) fun hi => OP (slD lo hi x.1 x.2) fun r => P r E4 :=
  EV_sl.trans ⟨fun h => h.imp fun x E1 ⟨k0, k⟩ => ⟨k0, k.imp fun l E2 k => k.imp fun h E3 ⟨lo, hi, r, a, b, c, d⟩ => ⟨lo, a, hi, b, r, c, d⟩⟩, fun h => h.imp fun x E1 ⟨k0, k⟩ => ⟨k0, k.imp fun l E2 k => k.imp fun h E3 ⟨lo, a, hi, b, r, c, d⟩ => ⟨lo, hi, r, a, b, c, d⟩⟩⟩
theorem W_call {g es E P} : W.EV Φ (.call g es) E P ↔ W.EVa Φ es E fun as E1 => W.GA as E1 fun vs E2 => W.CL Φ g vs fun r os => PUT (scat as os E2) fun E3 => P r E3 := EV_call
theorem W_anil {E P} : W.EVa Φ [] E P ↔ P [] E := EVa_nil
theorem W_aio {i es E P} : W.EVa Φ (.io i :: es) E P ↔ GS i E fun x => W.EVa Φ es E fun xs E1 => P (.inr i :: xs) E1 := EVa_io
theorem W_acons {e es E P} (h : isIo e = false) : W.EVa Φ (e :: es) E P ↔ W.EV Φ e E fun x E1 => ESC e x E1 fun x E2 => W.EVa Φ es E2 fun xs E3 => P (.inl x :: xs) E3 := EVa_cons h
theorem W_gnil {E P} : W.GA [] E P ↔ P [] E := GA_nil
theorem W_ginl {x as E P} : W.GA (.inl x :: as) E P ↔ W.GA as E fun vs E2 => P (x :: vs) E2 := GA_inl
theorem W_ginr {i as E P} : W.GA (.inr i :: as) E P ↔ GS i E fun x => PUT (E.set i none) fun E' => W.GA as E' fun vs E2 => P (x :: vs) E2 := GA_inr
theorem scat_nil {E} : scat [] [] E = E := rfl
theorem scat_inr {i r o os E} : scat (.inr i :: r) (o :: os) E = scat r os (E.set i o) := rfl
theorem scat_inl {x r o os E} : scat (.inl x :: r) (o :: os) E = scat r os E := rfl
theorem scat_ni {os E} : scat [] os E = E := by cases os <;> rfl
theorem scat_il {x r os E} : scat (.inl x :: r) os E = scat r os.tail E := by
  cases os with
  | nil => show E = scat r [] E; cases r with
    | nil => rfl
    | cons a r => cases a <;> rfl
  | cons o os => rfl
/- statements -/
theorem W_skip {E N R} : W.EX Φ .skip E N R ↔ N E := EX_skip
theorem W_seq {a b E N R} : W.EX Φ (.seq a b) E N R ↔ W.EX Φ a E (fun E1 => W.EX Φ b E1 N R) R := EX_seq
theorem W_setv {i e E N R} : W.EX Φ (.set (.v i) e) E N R ↔ W.EV Φ e E fun x E1 => ESC e x E1 fun x E2 => PUT (E2.set i (some x)) N := EX_setv
theorem W_setT {is e E N R} : W.EX Φ (.set (.t is) e) E N R ↔ W.EV Φ e E fun x E1 => ESC e x E1 fun x E2 => OP (bindT (.t is) x E2) N := EX_setT
theorem W_expr {e E N R} : W.EX Φ (.expr e) E N R ↔ W.EV Φ e E fun _ E1 => N E1 := EX_expr
theorem W_ite {c a b E N R} : W.EX Φ (.ite c a b) E N R ↔ W.EV Φ c E fun x E1 => BR x.1 (fun _ => W.EX Φ a E1 N R) fun _ => W.EX Φ b E1 N R := EX_ite
theorem W_retn {E N R} : W.EX Φ .retn E N R ↔ R (.non, .deep) E := EX_retn
theorem W_retv {i E N R} : W.EX Φ (.ret (.var i)) E N R ↔ GS i E fun x => PL (plain x.1) (fun _ => R x E) fun _ => PUT (E.set i none) fun E' => R x E' := EX_retv.trans ⟨fun ⟨x, h, k⟩ => ⟨x, h, by cases h : plain x.1 <;> simp_all [PL, PUT]⟩, fun ⟨x, h, k⟩ => ⟨x, h, by cases h : plain x.1 <;> simp_all [PL, PUT]⟩⟩
def isVar : Ex → Bool
  | .var _ => true
  | _ => false
theorem W_ret {e E N R} (h : isVar e = false) : W.EX Φ (.ret e) E N R ↔ W.EV Φ e E fun x E1 => ESC e x E1 R := EX_ret (by intro i z; subst z; cases h)
theorem W_inil {w E P} : W.EVi Φ w [] E P ↔ P [] E := EVi_nil
theorem W_icons {w e es E P} : W.EVi Φ w (e :: es) E P ↔ W.EV Φ e E fun x E1 => HOLD w e x E1 fun x E2 => W.EVi Φ w es E2 fun xs E3 => P (x :: xs) E3 := EVi_cons
theorem W_for {tg k es body E N R} : W.EX Φ (.for_ tg k es body) E N R ↔ W.IT Φ k (wrS body ++ tgs tg) es E fun its E1 => W.FL Φ tg body its E1 N R := EX_for
theorem W_rng {w es E P} : W.IT Φ .rng w es E P ↔ W.EVs Φ es E fun xs E1 => OP (items .rng (ds xs)) fun its => P its E1 := Iff.rfl
theorem W_of {w es E P} : W.IT Φ .of w es E P ↔ W.EVi Φ w es E fun xs E1 => OP (items .of (ds xs)) fun its => P its E1 := Iff.rfl
theorem W_enu {w es E P} : W.IT Φ .enu w es E P ↔ W.EVi Φ w es E fun xs E1 => OP (items .enu (ds xs)) fun its => P its E1 := Iff.rfl
theorem W_keys {w es E P} : W.IT Φ .keys w es E P ↔ W.EVi Φ w es E fun xs E1 => OP (items .keys (ds xs)) fun its => P its E1 := Iff.rfl
theorem W_zip {w es E P} : W.IT Φ .zip w es E P ↔ W.EVs Φ es E fun xs E1 => OP (items .zip (ds xs)) fun its => P its E1 := Iff.rfl
theorem W_rev {w es E P} : W.IT Φ .rev w es E P ↔ W.EVi Φ w es E fun xs E1 => OP (items .rev (ds xs)) fun its => P its E1 := Iff.rfl
theorem W_comp {shr elt tg k es cond E P} : W.EV Φ (.comp shr elt tg k es cond) E P ↔ W.IT Φ k (tgs tg ++ (wrx elt ++ wr cond)) es E fun its E1 => (its.length ≤ line ∧ keepable (tgs tg) E1 = true) ∧ W.CP Φ shr elt tg cond its E1 [] fun acc E2 => PUT (back (tgs tg) E1 E2) fun E3 => P (.lst acc, if shr && !plains acc then .top else .deep) E3 := EV_comp
def CHG (i : Nat) (ks : List D) (own : Bool) (f : D → Option (D × D)) (E : En) (K : Val → En → Prop) [U K] : Prop := ∃ r E', chg i ks own f E = some (r, E') ∧ K r E'
theorem W_setIx {i k e E N R} : W.EX Φ (.setIx i k e) E N R ↔ W.EV Φ e E fun x E1 => ESC e x E1 fun x E2 => GS i E2 fun _ => W.EV Φ k E2 fun y E3 => CHG i [] (plain x.1 || decide (x.2 = .deep)) (setD y.1 x.1) E3 fun _ E4 => N E4 := EX_setIx
/-- the outer container at a slot, changed -/
theorem CHG_nil {i own f E K} : CHG i [] own f E K ↔ GS i E fun z => z.2 ≠ .sh ∧ OP (f z.1) fun p => PUT (E.set i (some (p.1, if own then z.2 else .top))) fun E' => K (vl p.2 (kid z.2)) E' := by
  unfold CHG GS OP PUT chg
  cases hE : E[i]? with
  | none => simp
  | some o =>
    cases o with
    | none => simp
    | some z =>
      obtain ⟨d, w⟩ := z
      simp only [Option.some.injEq, exists_eq_left', List.isEmpty_nil, if_true]
      by_cases hw : w = .sh
      · simp [hw]
      · simp only [if_neg hw, ne_eq, hw, not_false_eq_true, true_and]
        cases f d with
        | none => simp
        | some p =>
          constructor
          · rintro ⟨r, E', h, k⟩
            cases h
            exact ⟨_, rfl, k⟩
          · rintro ⟨p', h, k⟩
            cases h
            exact ⟨_, _, rfl, k⟩
end
end BS

set_option Elab.async false
set_option linter.all false
set_option maxRecDepth 100000
set_option maxHeartbeats 2000000
/-! What single operations yield, and the tactic that steps. -/
namespace BS
open PySem L2
def isLstD : D → Bool
  | .lst _ => true
  | _ => false
section
variable {Φ : Phi}
theorem W_int {i E P} : W.EV Φ (.int i) E P ↔ P (.int i, .deep) E := EV_int
theorem W_str {i E P} : W.EV Φ (.str i) E P ↔ P (.str i, .deep) E := EV_str
theorem W_bl {i E P} : W.EV Φ (.bl i) E P ↔ P (.bl i, .deep) E := EV_bl
theorem W_non {E P} : W.EV Φ .non E P ↔ P (.non, .deep) E := EV_non
theorem W_glo {d E P} : W.EV Φ (.glo d) E P ↔ P (d, .deep) E := EV_glo
theorem W_dct0 {t E P} : W.EV Φ (.dct0 t) E P ↔ P (.dic t [], .deep) E := by
  show EV Φ (.dct0 t) E P ↔ _
  unfold EV; simp only [ev]; exact ex2
theorem W_inG {neg e xs E P} : W.EV Φ (.inG neg e xs) E P ↔ W.EV Φ e E fun x E1 => OP (match x.1 with | .str s => some (if neg then !xs.contains s else xs.contains s) | _ => none) fun b => P (.bl b, .deep) E1 := by
  show EV Φ (.inG neg e xs) E P ↔ EV Φ e E _
  unfold EV OP
  simp only [ev, Option.bind_eq_bind, Option.bind_eq_some_iff, Prod.exists]
  constructor
  · rintro ⟨d, w, E', ⟨x, w', E1, h1, h2⟩, p⟩
    refine ⟨x, w', E1, h1, ?_⟩
    cases x <;> cases h2
    exact ⟨_, rfl, p⟩
  · rintro ⟨x, w', E1, h1, b, h2, p⟩
    cases x <;> cases h2
    exact ⟨_, _, _, ⟨_, _, _, h1, rfl⟩, p⟩
theorem W_mut {m i es E P} : W.EV Φ (.mut m i es) E P ↔ GS i E fun z => isLstD z.1 = true ∧ W.EVs Φ es E fun xs E1 => CHG i [] (allDeep xs) (mutD m (ds xs)) E1 fun r E2 => P r E2 := by
  show EV Φ (.mut m i es) E P ↔ _
  unfold EV GS
  simp only [ev]
  cases hE : E[i]? with
  | none => simp
  | some o =>
    cases o with
    | none => simp
    | some z =>
      obtain ⟨d, w⟩ := z
      simp only [Option.some.injEq, exists_eq_left']
      cases d with
      | lst l =>
        simp only [isLstD, true_and]
        constructor
        · rintro ⟨x, E', h, p⟩
          rw [Option.bind_eq_bind, Option.bind_eq_some_iff] at h
          obtain ⟨⟨xs, E1⟩, h1, h2⟩ := h
          exact ⟨xs, E1, h1, x, E', h2, p⟩
        · rintro ⟨xs, E1, h1, x, E', h2, p⟩
          exact ⟨x, E', by rw [Option.bind_eq_bind, Option.bind_eq_some_iff]; exact ⟨(xs, E1), h1, h2⟩, p⟩
      | _ => simp [isLstD]
end
/- sized values -/
theorem item_lst' {xs : List D} {i : Int} : item (.lst xs) (.int i) = atI xs i := rfl
theorem item_tup' {xs : List D} {i : Int} : item (.tup xs) (.int i) = atI xs i := rfl
theorem item_scr' {ns : List Int} {i : Int} : item (.scr ns) (.int i) = (atI ns i).map .int := rfl
theorem item_str' {s : Str} {i : Int} : item (.str s) (.int i) = (atI s.cps.toList i).map fun c => .str ⟨#[c]⟩ := rfl
theorem item_dic {t kvs k} : item (.dic t kvs) k = if keyOk t k = true then dget kvs k else none := rfl
theorem atI_lit {α : Type} {xs : List α} {n : Nat} : atI xs (no_index (OfNat.ofNat n)) = xs[n]? := by
  show atI xs (n : Int) = _
  cases h : xs[n]? with
  | none =>
    have := List.getElem?_eq_none_iff.mp h
    unfold atI ixN
    rw [if_pos (by omega), if_neg (by omega)]
    rfl
  | some v => exact L2.atI_nat h
theorem atI_of {α : Type} {xs : List α} {i : Int} (h0 : 0 ≤ i) (h1 : i < xs.length) : atI xs i = some (xs[i.toNat]'(by omega)) := by
  have e : i = (i.toNat : Int) := by omega
  conv => lhs; rw [e]
  exact L2.atI_nat (List.getElem?_eq_getElem (by omega))
theorem OP_at {α : Type} {xs : List α} {i : Int} {K : α → Prop} (h0 : 0 ≤ i) (h1 : i < xs.length) (k : ∀ h : i.toNat < xs.length, K xs[i.toNat]) : OP (atI xs i) K := OP_of (atI_of h0 h1) (k _)
theorem a2_add {i j : Int} : app2 .add (.int i) (.int j) = some (.int (i + j)) := rfl
theorem a2_adds {i j : Str} : app2 .add (.str i) (.str j) = if i.length + j.length ≤ line then some (.str (i ++ j)) else none := rfl
theorem a2_sub {i j : Int} : app2 .sub (.int i) (.int j) = some (.int (i - j)) := rfl
theorem a2_mul {i j : Int} : app2 .mul (.int i) (.int j) = if (-(2 ^ 64) < i ∧ i < 2 ^ 64) ∨ (-(2 ^ 64) < j ∧ j < 2 ^ 64) then some (.int (i * j)) else none := rfl
theorem a2_muls {s : Str} {k : Int} : app2 .mul (.str s) (.int k) = if 0 ≤ k ∧ k < 2 ^ 62 ∧ s.length * k.toNat ≤ line then some (.str (srep s k)) else none := rfl
theorem a2_fdiv {i j : Int} : app2 .fdiv (.int i) (.int j) = if 0 < j ∧ j < 1073741824 then some (.int (i / j)) else none := rfl
theorem a2_mod {i j : Int} : app2 .mod (.int i) (.int j) = if 0 < j then some (.int (i % j)) else none := rfl
theorem a2_pow {i j : Int} : app2 .pow (.int i) (.int j) = if 0 ≤ j ∧ j ≤ 1000000 ∧ i.natAbs < 2 ^ 64 then some (.int (i ^ j.toNat)) else none := rfl
theorem a2_lt {i j : Int} : app2 .lt (.int i) (.int j) = some (.bl (decide (i < j))) := rfl
theorem a2_le {i j : Int} : app2 .le (.int i) (.int j) = some (.bl (decide (i ≤ j))) := rfl
theorem a2_gt {i j : Int} : app2 .gt (.int i) (.int j) = some (.bl (decide (j < i))) := rfl
theorem a2_ge {i j : Int} : app2 .ge (.int i) (.int j) = some (.bl (decide (j ≤ i))) := rfl
theorem deq_int {i j : Int} : deq (.int i) (.int j) = decide (i = j) := by
  by_cases h : i = j <;> simp [deq, h]
theorem deq_str {i j : Str} : deq (.str i) (.str j) = decide (i = j) := rfl
theorem deq_bl {i j : Bool} : deq (.bl i) (.bl j) = (i == j) := rfl
theorem a2_eq {a b : D} : app2 .eq a b = if (shp 30 a && shp 30 b) = true then some (.bl (deq a b)) else none := rfl
theorem a2_ne {a b : D} : app2 .ne a b = if (shp 30 a && shp 30 b) = true then some (.bl (!deq a b)) else none := rfl
theorem a2_eqi {i j : Int} : app2 .eq (.int i) (.int j) = some (.bl (decide (i = j))) := by rw [a2_eq, deq_int]; rfl
theorem a2_nei {i j : Int} : app2 .ne (.int i) (.int j) = some (.bl (!decide (i = j))) := by rw [a2_ne, deq_int]; rfl
theorem a2_eqs {i j : Str} : app2 .eq (.str i) (.str j) = some (.bl (decide (i = j))) := by rw [a2_eq, deq_str]; rfl
theorem a2_nes {i j : Str} : app2 .ne (.str i) (.str j) = some (.bl (!decide (i = j))) := by rw [a2_ne, deq_str]; rfl
theorem a2_max {i j : Int} : app2 .max (.int i) (.int j) = some (.int (max i j)) := by
  show some (D.int (if j > i then j else i)) = _
  congr 2
  rw [Int.max_def]
  split <;> split <;> omega
theorem a2_min {i j : Int} : app2 .min (.int i) (.int j) = some (.int (min i j)) := by
  show some (D.int (if j < i then j else i)) = _
  congr 2
  rw [Int.min_def]
  split <;> split <;> omega
theorem a2_inl {a : D} {xs : List D} : app2 .In a (.lst xs) = if (scalar a && scalars xs || shp 30 a && shps 29 xs) = true then some (.bl (xs.any fun y => deq y a)) else none := by cases a <;> rfl
theorem a2_int {a : D} {xs : List D} : app2 .In a (.tup xs) = if (scalar a && scalars xs) = true then some (.bl (xs.any fun y => deq y a)) else none := by cases a <;> rfl
theorem a2_nil {a : D} {xs : List D} : app2 .NotIn a (.lst xs) = if (scalar a && scalars xs || shp 30 a && shps 29 xs) = true then some (.bl (!xs.any fun y => deq y a)) else none := by cases a <;> rfl
theorem a2_nit {a : D} {xs : List D} : app2 .NotIn a (.tup xs) = if (scalar a && scalars xs) = true then some (.bl (!xs.any fun y => deq y a)) else none := by cases a <;> rfl
theorem a2_ind {a : D} {t kvs} : app2 .In a (.dic t kvs) = if keyOk t a = true then some (.bl (dhas kvs a)) else none := by cases a <;> rfl
theorem a2_nid {a : D} {t kvs} : app2 .NotIn a (.dic t kvs) = if keyOk t a = true then some (.bl (!dhas kvs a)) else none := by cases a <;> rfl
theorem a1_not {b : Bool} : app1 .not (.bl b) = some (.bl (!b)) := rfl
theorem a1_neg {i : Int} : app1 .neg (.int i) = some (.int (-i)) := rfl
theorem a1_len {d : D} : app1 .len d = (lenD d).map .int := rfl
theorem a1_int {i : Int} : app1 .int (.int i) = some (.int i) := rfl
theorem a1_intb {b : Bool} : app1 .int (.bl b) = some (.int (if b = true then 1 else 0)) := rfl
theorem a1_str {i : Int} : app1 .str (.int i) = if i.natAbs.log2 < 1920 then some (.str (toString i)) else none := rfl
theorem a1_abs {i : Int} : app1 .abs (.int i) = some (.int (if i < 0 then -i else i)) := rfl
theorem a1_isBt {c : Bool} : app1 (.isB true) (.bl c) = some (.bl c) := by cases c <;> rfl
theorem a1_isBf {c : Bool} : app1 (.isB false) (.bl c) = some (.bl (!c)) := by cases c <;> rfl
theorem a1_isBn {k} : app1 (.isB k) .non = some (.bl false) := rfl
theorem a1_isBi {k i} : app1 (.isB k) (.int i) = some (.bl false) := rfl
theorem a1_isBs {k i} : app1 (.isB k) (.str i) = some (.bl false) := rfl
theorem a1_isBl {k i} : app1 (.isB k) (.lst i) = some (.bl false) := rfl
theorem a1_isN {d : D} : app1 .isN d = some (.bl (isNon d)) := by cases d <;> rfl
theorem a1_isNN {d : D} : app1 .isNN d = some (.bl (!isNon d)) := by cases d <;> rfl
def isiOk : D → Bool
  | .fn _ => false
  | .dic true _ => false
  | .scr _ => false
  | _ => true
theorem a1_isi {t d} : app1 (.isi t) d = if isiOk d = true then some (.bl (tyOf t d)) else none := by
  cases d <;> try rfl
  case dic t' kvs => cases t' <;> rfl
theorem len_str {s : Str} : lenD (.str s) = some (s.length : Int) := rfl
theorem len_lst {s : List D} : lenD (.lst s) = some (s.length : Int) := rfl
theorem len_tup {s : List D} : lenD (.tup s) = some (s.length : Int) := rfl
theorem len_scr {s : List Int} : lenD (.scr s) = some (s.length : Int) := rfl
theorem len_dic {kvs : List (D × D)} : lenD (.dic false kvs) = some (kvs.length : Int) := rfl
theorem setD_l {i : Int} {v : D} {xs : List D} : setD (.int i) v (.lst xs) = (ixN xs.length i).map fun j => (.lst (xs.set j v), .non) := by
  show ((ixN xs.length i).map fun j => xs.set j v).map _ = _
  rw [Option.map_map]
  rfl
theorem setD_d {k v : D} {t : Bool} {kvs : List (D × D)} : setD k v (.dic t kvs) = if kvs.length < line ∧ keyOk t k = true then some (.dic t (dput kvs k v), .non) else none := rfl
theorem mut_app {x : D} {xs : List D} : mutD .append [x] (.lst xs) = if xs.length < line then some (.lst (xs ++ [x]), .non) else none := rfl
theorem mut_ext {ys xs : List D} : mutD .extend [.lst ys] (.lst xs) = if xs.length + ys.length ≤ line then some (.lst (xs ++ ys), .non) else none := rfl
theorem mut_ins {i : Int} {x : D} {xs : List D} : mutD .insert [.int i, x] (.lst xs) = if xs.length < line ∧ 0 ≤ i ∧ i < 2 ^ 63 then some (.lst (xs.take i.toNat ++ [x] ++ xs.drop i.toNat), .non) else none := rfl
theorem ixN_lit {m n : Nat} : ixN m (no_index (OfNat.ofNat n)) = if n < m then some n else none := by
  show ixN m (n : Int) = _
  unfold ixN
  rw [if_pos (by omega)]
  by_cases h : n < m
  · rw [if_pos (by omega), if_pos h]; rfl
  · rw [if_neg (by omega), if_neg h]
theorem ixN_of {m : Nat} {i : Int} (h0 : 0 ≤ i) (h1 : i < m) : ixN m i = some i.toNat := by
  unfold ixN
  rw [if_pos h0, if_pos h1]
theorem it_of {xs : List D} : items .of [.lst xs] = some xs := rfl
theorem it_oft {xs : List D} : items .of [.tup xs] = some xs := rfl
theorem it_ofs {s : Str} : items .of [.str s] = some (chars s) := rfl
theorem it_r1 {n : Int} : items .rng [.int n] = if inB n = true then some (rng 0 1 0 n.toNat) else none := rfl
theorem it_r2 {lo hi : Int} : items .rng [.int lo, .int hi] = if (inB lo && inB hi) = true then some (rng lo 1 0 (hi - lo).toNat) else none := rfl
theorem it_r3 {lo hi c : Int} : items .rng [.int lo, .int hi, .int c] = if (inB lo && inB hi && decide (0 < c) && decide (c < 1073741824)) = true then some (rng lo c 0 ((hi - lo + c - 1) / c).toNat) else none := rfl
theorem it_enu {xs : List D} : items .enu [.lst xs] = some (enum0 0 xs) := rfl
theorem it_zip {xs ys : List D} : items .zip [.lst xs, .lst ys] = some (zip0 xs ys) := rfl
theorem it_rev {xs : List D} : items .rev [.lst xs] = some xs.reverse := rfl
theorem it_keys {kvs} : items .keys [.dic false kvs] = if intKeys kvs = true then some (kvs.map (·.1)) else none := rfl
theorem it_keysl {xs : List D} : items .keys [.lst xs] = some xs := rfl
theorem it_keyst {xs : List D} : items .keys [.tup xs] = some xs := rfl
theorem it_keyss {s : Str} : items .keys [.str s] = some (chars s) := rfl
theorem inB_iff {i : Int} : inB i = true ↔ -(2 ^ 62) ≤ i ∧ i < 2 ^ 62 := by simp [inB]
theorem ds_nil : ds [] = [] := rfl
theorem ds_cons {x : Val} {xs} : ds (x :: xs) = x.1 :: ds xs := rfl
theorem vl_t {d w} (h : plain d = true) : vl d w = (d, .deep) := by simp [vl, h]
theorem vl_f {d w} (h : plain d = false) : vl d w = (d, w) := by simp [vl, h]
theorem listD_l {xs w} : listD (.lst xs, w) = some (newLst xs w) := rfl
theorem listD_t {xs w} : listD (.tup xs, w) = some (newLst xs w) := rfl
theorem catD_l {xs ys w u} : catD (.lst xs, w) (.lst ys, u) = if xs.length + ys.length ≤ line ∧ ((w = .deep ∧ u = .deep) ∨ ((w ≠ .deep ∨ plains xs = true) ∧ (u ≠ .deep ∨ plains ys = true))) then some (newLst (xs ++ ys) (if w = .deep ∧ u = .deep then .deep else .sh)) else none := rfl
theorem newLst_deep {xs} : newLst xs .deep = (.lst xs, .deep) := by unfold newLst; split <;> rfl
theorem newLst_pl {xs w} (h : plains xs = true) : newLst xs w = (.lst xs, .deep) := by simp [newLst, h]
theorem mkTup_deep {xs} (h : allDeep xs = true) : mkTup xs = (.tup (ds xs), .deep) := by
  unfold mkTup vl
  rw [h]
  split <;> rfl
theorem mkLst_deep {xs} (h : allDeep xs = true) : mkLst xs = (.lst (ds xs), .deep) := by
  unfold mkLst
  rw [h]
  rfl
theorem bind_t {is : List Nat} {xs : List D} {w : Ow} {E : En} : bindT (.t is) (.tup xs, w) E = if is.length = xs.length then binds is xs (kid w) E else none := rfl
theorem binds_nil {w : Ow} {E : En} : binds [] [] w E = some E := rfl
theorem binds_cons {i is d ds w} {E : En} : binds (i :: is) (d :: ds) w E = binds is ds w (E.set i (some (vl d w))) := rfl
theorem bind_v {i : Nat} {x : Val} {E : En} : bindT (.v i) x E = some (E.set i (some x)) := rfl
end BS

set_option Elab.async false
set_option linter.all false
set_option maxRecDepth 100000
set_option maxHeartbeats 2000000
namespace BS
open PySem L2
theorem ESC_int { i x E K} : ESC (.int i) x E K ↔ K x E := ESC_np rfl
theorem KESC_int { i x E K} : KESC (.int i) x E K ↔ K x E := KESC_np rfl
theorem HOLD_int {w  i x E K} : HOLD w (.int i) x E K ↔ K x E := HOLD_np rfl
theorem BRW_int {i w x K} : BRW (.int i) w x K ↔ K () := BRW_np rfl
theorem Wac_int {Φ : Phi} {i r E P} : W.EVa Φ ((.int i) :: r) E P ↔ W.EV Φ (.int i) E fun x E1 => ESC (.int i) x E1 fun x E2 => W.EVa Φ r E2 fun xs E3 => P (.inl x :: xs) E3 := W_acons rfl
theorem Wret_int {Φ : Phi} {i E N R} : W.EX Φ (.ret (.int i)) E N R ↔ W.EV Φ (.int i) E fun x E1 => ESC (.int i) x E1 R := W_ret rfl
theorem slI_int {i} {q0 : Int} : sliceI (.int i) (.int q0) = some (some q0) := rfl
theorem isPl_int {i} : isPl (.int i) = false := rfl
theorem ESC_str { s0 x E K} : ESC (.str s0) x E K ↔ K x E := ESC_np rfl
theorem KESC_str { s0 x E K} : KESC (.str s0) x E K ↔ K x E := KESC_np rfl
theorem HOLD_str {w  s0 x E K} : HOLD w (.str s0) x E K ↔ K x E := HOLD_np rfl
theorem BRW_str {s0 w x K} : BRW (.str s0) w x K ↔ K () := BRW_np rfl
theorem Wac_str {Φ : Phi} {s0 r E P} : W.EVa Φ ((.str s0) :: r) E P ↔ W.EV Φ (.str s0) E fun x E1 => ESC (.str s0) x E1 fun x E2 => W.EVa Φ r E2 fun xs E3 => P (.inl x :: xs) E3 := W_acons rfl
theorem Wret_str {Φ : Phi} {s0 E N R} : W.EX Φ (.ret (.str s0)) E N R ↔ W.EV Φ (.str s0) E fun x E1 => ESC (.str s0) x E1 R := W_ret rfl
theorem slI_str {s0} {q0 : Int} : sliceI (.str s0) (.int q0) = some (some q0) := rfl
theorem isPl_str {s0} : isPl (.str s0) = false := rfl
theorem ESC_bl { b x E K} : ESC (.bl b) x E K ↔ K x E := ESC_np rfl
theorem KESC_bl { b x E K} : KESC (.bl b) x E K ↔ K x E := KESC_np rfl
theorem HOLD_bl {w  b x E K} : HOLD w (.bl b) x E K ↔ K x E := HOLD_np rfl
theorem BRW_bl {b w x K} : BRW (.bl b) w x K ↔ K () := BRW_np rfl
theorem Wac_bl {Φ : Phi} {b r E P} : W.EVa Φ ((.bl b) :: r) E P ↔ W.EV Φ (.bl b) E fun x E1 => ESC (.bl b) x E1 fun x E2 => W.EVa Φ r E2 fun xs E3 => P (.inl x :: xs) E3 := W_acons rfl
theorem Wret_bl {Φ : Phi} {b E N R} : W.EX Φ (.ret (.bl b)) E N R ↔ W.EV Φ (.bl b) E fun x E1 => ESC (.bl b) x E1 R := W_ret rfl
theorem slI_bl {b} {q0 : Int} : sliceI (.bl b) (.int q0) = some (some q0) := rfl
theorem isPl_bl {b} : isPl (.bl b) = false := rfl
theorem ESC_non {  x E K} : ESC .non x E K ↔ K x E := ESC_np rfl
theorem KESC_non {  x E K} : KESC .non x E K ↔ K x E := KESC_np rfl
theorem HOLD_non {w   x E K} : HOLD w .non x E K ↔ K x E := HOLD_np rfl
theorem BRW_non { w x K} : BRW .non w x K ↔ K () := BRW_np rfl
theorem Wac_non {Φ : Phi} { r E P} : W.EVa Φ (.non :: r) E P ↔ W.EV Φ .non E fun x E1 => ESC .non x E1 fun x E2 => W.EVa Φ r E2 fun xs E3 => P (.inl x :: xs) E3 := W_acons rfl
theorem Wret_non {Φ : Phi} { E N R} : W.EX Φ (.ret .non) E N R ↔ W.EV Φ .non E fun x E1 => ESC .non x E1 R := W_ret rfl
theorem isPl_non  : isPl .non = false := rfl
theorem ESC_glo { d x E K} : ESC (.glo d) x E K ↔ K x E := ESC_np rfl
theorem KESC_glo { d x E K} : KESC (.glo d) x E K ↔ K x E := KESC_np rfl
theorem HOLD_glo {w  d x E K} : HOLD w (.glo d) x E K ↔ K x E := HOLD_np rfl
theorem BRW_glo {d w x K} : BRW (.glo d) w x K ↔ K () := BRW_np rfl
theorem Wac_glo {Φ : Phi} {d r E P} : W.EVa Φ ((.glo d) :: r) E P ↔ W.EV Φ (.glo d) E fun x E1 => ESC (.glo d) x E1 fun x E2 => W.EVa Φ r E2 fun xs E3 => P (.inl x :: xs) E3 := W_acons rfl
theorem Wret_glo {Φ : Phi} {d E N R} : W.EX Φ (.ret (.glo d)) E N R ↔ W.EV Φ (.glo d) E fun x E1 => ESC (.glo d) x E1 R := W_ret rfl
theorem slI_glo {d} {q0 : Int} : sliceI (.glo d) (.int q0) = some (some q0) := rfl
theorem isPl_glo {d} : isPl (.glo d) = false := rfl
theorem ESC_io { i x E K} : ESC (.io i) x E K ↔ K x E := ESC_np rfl
theorem KESC_io { i x E K} : KESC (.io i) x E K ↔ K x E := KESC_np rfl
theorem HOLD_io {w  i x E K} : HOLD w (.io i) x E K ↔ K x E := HOLD_np rfl
theorem BRW_io {i w x K} : BRW (.io i) w x K ↔ K () := BRW_np rfl
theorem Wret_io {Φ : Phi} {i E N R} : W.EX Φ (.ret (.io i)) E N R ↔ W.EV Φ (.io i) E fun x E1 => ESC (.io i) x E1 R := W_ret rfl
theorem slI_io {i} {q0 : Int} : sliceI (.io i) (.int q0) = some (some q0) := rfl
theorem isPl_io {i} : isPl (.io i) = false := rfl
theorem ESC_sl { a b c x E K} : ESC (.sl a b c) x E K ↔ K x E := ESC_np rfl
theorem KESC_sl { a b c x E K} : KESC (.sl a b c) x E K ↔ K x E := KESC_np rfl
theorem HOLD_sl {w  a b c x E K} : HOLD w (.sl a b c) x E K ↔ K x E := HOLD_np rfl
theorem BRW_sl {a b c w x K} : BRW (.sl a b c) w x K ↔ K () := BRW_np rfl
theorem Wac_sl {Φ : Phi} {a b c r E P} : W.EVa Φ ((.sl a b c) :: r) E P ↔ W.EV Φ (.sl a b c) E fun x E1 => ESC (.sl a b c) x E1 fun x E2 => W.EVa Φ r E2 fun xs E3 => P (.inl x :: xs) E3 := W_acons rfl
theorem Wret_sl {Φ : Phi} {a b c E N R} : W.EX Φ (.ret (.sl a b c)) E N R ↔ W.EV Φ (.sl a b c) E fun x E1 => ESC (.sl a b c) x E1 R := W_ret rfl
theorem slI_sl {a b c} {q0 : Int} : sliceI (.sl a b c) (.int q0) = some (some q0) := rfl
theorem isPl_sl {a b c} : isPl (.sl a b c) = false := rfl
theorem ESC_op1 { o a x E K} : ESC (.op1 o a) x E K ↔ K x E := ESC_np rfl
theorem KESC_op1 { o a x E K} : KESC (.op1 o a) x E K ↔ K x E := KESC_np rfl
theorem HOLD_op1 {w  o a x E K} : HOLD w (.op1 o a) x E K ↔ K x E := HOLD_np rfl
theorem BRW_op1 {o a w x K} : BRW (.op1 o a) w x K ↔ K () := BRW_np rfl
theorem Wac_op1 {Φ : Phi} {o a r E P} : W.EVa Φ ((.op1 o a) :: r) E P ↔ W.EV Φ (.op1 o a) E fun x E1 => ESC (.op1 o a) x E1 fun x E2 => W.EVa Φ r E2 fun xs E3 => P (.inl x :: xs) E3 := W_acons rfl
theorem Wret_op1 {Φ : Phi} {o a E N R} : W.EX Φ (.ret (.op1 o a)) E N R ↔ W.EV Φ (.op1 o a) E fun x E1 => ESC (.op1 o a) x E1 R := W_ret rfl
theorem slI_op1 {o a} {q0 : Int} : sliceI (.op1 o a) (.int q0) = some (some q0) := rfl
theorem isPl_op1 {o a} : isPl (.op1 o a) = false := rfl
theorem ESC_op2 { o a b x E K} : ESC (.op2 o a b) x E K ↔ K x E := ESC_np rfl
theorem KESC_op2 { o a b x E K} : KESC (.op2 o a b) x E K ↔ K x E := KESC_np rfl
theorem HOLD_op2 {w  o a b x E K} : HOLD w (.op2 o a b) x E K ↔ K x E := HOLD_np rfl
theorem BRW_op2 {o a b w x K} : BRW (.op2 o a b) w x K ↔ K () := BRW_np rfl
theorem Wac_op2 {Φ : Phi} {o a b r E P} : W.EVa Φ ((.op2 o a b) :: r) E P ↔ W.EV Φ (.op2 o a b) E fun x E1 => ESC (.op2 o a b) x E1 fun x E2 => W.EVa Φ r E2 fun xs E3 => P (.inl x :: xs) E3 := W_acons rfl
theorem Wret_op2 {Φ : Phi} {o a b E N R} : W.EX Φ (.ret (.op2 o a b)) E N R ↔ W.EV Φ (.op2 o a b) E fun x E1 => ESC (.op2 o a b) x E1 R := W_ret rfl
theorem slI_op2 {o a b} {q0 : Int} : sliceI (.op2 o a b) (.int q0) = some (some q0) := rfl
theorem isPl_op2 {o a b} : isPl (.op2 o a b) = false := rfl
theorem ESC_opP { o a x E K} : ESC (.opP o a) x E K ↔ K x E := ESC_np rfl
theorem KESC_opP { o a x E K} : KESC (.opP o a) x E K ↔ K x E := KESC_np rfl
theorem HOLD_opP {w  o a x E K} : HOLD w (.opP o a) x E K ↔ K x E := HOLD_np rfl
theorem BRW_opP {o a w x K} : BRW (.opP o a) w x K ↔ K () := BRW_np rfl
theorem Wac_opP {Φ : Phi} {o a r E P} : W.EVa Φ ((.opP o a) :: r) E P ↔ W.EV Φ (.opP o a) E fun x E1 => ESC (.opP o a) x E1 fun x E2 => W.EVa Φ r E2 fun xs E3 => P (.inl x :: xs) E3 := W_acons rfl
theorem Wret_opP {Φ : Phi} {o a E N R} : W.EX Φ (.ret (.opP o a)) E N R ↔ W.EV Φ (.opP o a) E fun x E1 => ESC (.opP o a) x E1 R := W_ret rfl
theorem slI_opP {o a} {q0 : Int} : sliceI (.opP o a) (.int q0) = some (some q0) := rfl
theorem isPl_opP {o a} : isPl (.opP o a) = false := rfl
theorem ESC_cat { a b x E K} : ESC (.cat a b) x E K ↔ K x E := ESC_np rfl
theorem KESC_cat { a b x E K} : KESC (.cat a b) x E K ↔ K x E := KESC_np rfl
theorem HOLD_cat {w  a b x E K} : HOLD w (.cat a b) x E K ↔ K x E := HOLD_np rfl
theorem BRW_cat {a b w x K} : BRW (.cat a b) w x K ↔ K () := BRW_np rfl
theorem Wac_cat {Φ : Phi} {a b r E P} : W.EVa Φ ((.cat a b) :: r) E P ↔ W.EV Φ (.cat a b) E fun x E1 => ESC (.cat a b) x E1 fun x E2 => W.EVa Φ r E2 fun xs E3 => P (.inl x :: xs) E3 := W_acons rfl
theorem Wret_cat {Φ : Phi} {a b E N R} : W.EX Φ (.ret (.cat a b)) E N R ↔ W.EV Φ (.cat a b) E fun x E1 => ESC (.cat a b) x E1 R := W_ret rfl
theorem slI_cat {a b} {q0 : Int} : sliceI (.cat a b) (.int q0) = some (some q0) := rfl
theorem isPl_cat {a b} : isPl (.cat a b) = false := rfl
theorem ESC_rep { a b x E K} : ESC (.rep a b) x E K ↔ K x E := ESC_np rfl
theorem KESC_rep { a b x E K} : KESC (.rep a b) x E K ↔ K x E := KESC_np rfl
theorem HOLD_rep {w  a b x E K} : HOLD w (.rep a b) x E K ↔ K x E := HOLD_np rfl
theorem BRW_rep {a b w x K} : BRW (.rep a b) w x K ↔ K () := BRW_np rfl
theorem Wac_rep {Φ : Phi} {a b r E P} : W.EVa Φ ((.rep a b) :: r) E P ↔ W.EV Φ (.rep a b) E fun x E1 => ESC (.rep a b) x E1 fun x E2 => W.EVa Φ r E2 fun xs E3 => P (.inl x :: xs) E3 := W_acons rfl
theorem Wret_rep {Φ : Phi} {a b E N R} : W.EX Φ (.ret (.rep a b)) E N R ↔ W.EV Φ (.rep a b) E fun x E1 => ESC (.rep a b) x E1 R := W_ret rfl
theorem slI_rep {a b} {q0 : Int} : sliceI (.rep a b) (.int q0) = some (some q0) := rfl
theorem isPl_rep {a b} : isPl (.rep a b) = false := rfl
theorem ESC_and { a b x E K} : ESC (.and a b) x E K ↔ K x E := ESC_np rfl
theorem KESC_and { a b x E K} : KESC (.and a b) x E K ↔ K x E := KESC_np rfl
theorem HOLD_and {w  a b x E K} : HOLD w (.and a b) x E K ↔ K x E := HOLD_np rfl
theorem BRW_and {a b w x K} : BRW (.and a b) w x K ↔ K () := BRW_np rfl
theorem Wac_and {Φ : Phi} {a b r E P} : W.EVa Φ ((.and a b) :: r) E P ↔ W.EV Φ (.and a b) E fun x E1 => ESC (.and a b) x E1 fun x E2 => W.EVa Φ r E2 fun xs E3 => P (.inl x :: xs) E3 := W_acons rfl
theorem Wret_and {Φ : Phi} {a b E N R} : W.EX Φ (.ret (.and a b)) E N R ↔ W.EV Φ (.and a b) E fun x E1 => ESC (.and a b) x E1 R := W_ret rfl
theorem slI_and {a b} {q0 : Int} : sliceI (.and a b) (.int q0) = some (some q0) := rfl
theorem isPl_and {a b} : isPl (.and a b) = false := rfl
theorem ESC_or { a b x E K} : ESC (.or a b) x E K ↔ K x E := ESC_np rfl
theorem KESC_or { a b x E K} : KESC (.or a b) x E K ↔ K x E := KESC_np rfl
theorem HOLD_or {w  a b x E K} : HOLD w (.or a b) x E K ↔ K x E := HOLD_np rfl
theorem BRW_or {a b w x K} : BRW (.or a b) w x K ↔ K () := BRW_np rfl
theorem Wac_or {Φ : Phi} {a b r E P} : W.EVa Φ ((.or a b) :: r) E P ↔ W.EV Φ (.or a b) E fun x E1 => ESC (.or a b) x E1 fun x E2 => W.EVa Φ r E2 fun xs E3 => P (.inl x :: xs) E3 := W_acons rfl
theorem Wret_or {Φ : Phi} {a b E N R} : W.EX Φ (.ret (.or a b)) E N R ↔ W.EV Φ (.or a b) E fun x E1 => ESC (.or a b) x E1 R := W_ret rfl
theorem slI_or {a b} {q0 : Int} : sliceI (.or a b) (.int q0) = some (some q0) := rfl
theorem isPl_or {a b} : isPl (.or a b) = false := rfl
theorem ESC_ife { c0 a0 b0 x E K} : ESC (.ife c0 a0 b0) x E K ↔ K x E := ESC_np rfl
theorem KESC_ife { c0 a0 b0 x E K} : KESC (.ife c0 a0 b0) x E K ↔ K x E := KESC_np rfl
theorem HOLD_ife {w  c0 a0 b0 x E K} : HOLD w (.ife c0 a0 b0) x E K ↔ K x E := HOLD_np rfl
theorem BRW_ife {c0 a0 b0 w x K} : BRW (.ife c0 a0 b0) w x K ↔ K () := BRW_np rfl
theorem Wac_ife {Φ : Phi} {c0 a0 b0 r E P} : W.EVa Φ ((.ife c0 a0 b0) :: r) E P ↔ W.EV Φ (.ife c0 a0 b0) E fun x E1 => ESC (.ife c0 a0 b0) x E1 fun x E2 => W.EVa Φ r E2 fun xs E3 => P (.inl x :: xs) E3 := W_acons rfl
theorem Wret_ife {Φ : Phi} {c0 a0 b0 E N R} : W.EX Φ (.ret (.ife c0 a0 b0)) E N R ↔ W.EV Φ (.ife c0 a0 b0) E fun x E1 => ESC (.ife c0 a0 b0) x E1 R := W_ret rfl
theorem slI_ife {c0 a0 b0} {q0 : Int} : sliceI (.ife c0 a0 b0) (.int q0) = some (some q0) := rfl
theorem isPl_ife {c0 a0 b0} : isPl (.ife c0 a0 b0) = false := rfl
theorem ESC_tup { es x E K} : ESC (.tup es) x E K ↔ K x E := ESC_np rfl
theorem KESC_tup { es x E K} : KESC (.tup es) x E K ↔ K x E := KESC_np rfl
theorem HOLD_tup {w  es x E K} : HOLD w (.tup es) x E K ↔ K x E := HOLD_np rfl
theorem BRW_tup {es w x K} : BRW (.tup es) w x K ↔ K () := BRW_np rfl
theorem Wac_tup {Φ : Phi} {es r E P} : W.EVa Φ ((.tup es) :: r) E P ↔ W.EV Φ (.tup es) E fun x E1 => ESC (.tup es) x E1 fun x E2 => W.EVa Φ r E2 fun xs E3 => P (.inl x :: xs) E3 := W_acons rfl
theorem Wret_tup {Φ : Phi} {es E N R} : W.EX Φ (.ret (.tup es)) E N R ↔ W.EV Φ (.tup es) E fun x E1 => ESC (.tup es) x E1 R := W_ret rfl
theorem slI_tup {es} {q0 : Int} : sliceI (.tup es) (.int q0) = some (some q0) := rfl
theorem isPl_tup {es} : isPl (.tup es) = false := rfl
theorem ESC_lst { es x E K} : ESC (.lst es) x E K ↔ K x E := ESC_np rfl
theorem KESC_lst { es x E K} : KESC (.lst es) x E K ↔ K x E := KESC_np rfl
theorem HOLD_lst {w  es x E K} : HOLD w (.lst es) x E K ↔ K x E := HOLD_np rfl
theorem BRW_lst {es w x K} : BRW (.lst es) w x K ↔ K () := BRW_np rfl
theorem Wac_lst {Φ : Phi} {es r E P} : W.EVa Φ ((.lst es) :: r) E P ↔ W.EV Φ (.lst es) E fun x E1 => ESC (.lst es) x E1 fun x E2 => W.EVa Φ r E2 fun xs E3 => P (.inl x :: xs) E3 := W_acons rfl
theorem Wret_lst {Φ : Phi} {es E N R} : W.EX Φ (.ret (.lst es)) E N R ↔ W.EV Φ (.lst es) E fun x E1 => ESC (.lst es) x E1 R := W_ret rfl
theorem slI_lst {es} {q0 : Int} : sliceI (.lst es) (.int q0) = some (some q0) := rfl
theorem isPl_lst {es} : isPl (.lst es) = false := rfl
theorem ESC_dct0 { t0 x E K} : ESC (.dct0 t0) x E K ↔ K x E := ESC_np rfl
theorem KESC_dct0 { t0 x E K} : KESC (.dct0 t0) x E K ↔ K x E := KESC_np rfl
theorem HOLD_dct0 {w  t0 x E K} : HOLD w (.dct0 t0) x E K ↔ K x E := HOLD_np rfl
theorem BRW_dct0 {t0 w x K} : BRW (.dct0 t0) w x K ↔ K () := BRW_np rfl
theorem Wac_dct0 {Φ : Phi} {t0 r E P} : W.EVa Φ ((.dct0 t0) :: r) E P ↔ W.EV Φ (.dct0 t0) E fun x E1 => ESC (.dct0 t0) x E1 fun x E2 => W.EVa Φ r E2 fun xs E3 => P (.inl x :: xs) E3 := W_acons rfl
theorem Wret_dct0 {Φ : Phi} {t0 E N R} : W.EX Φ (.ret (.dct0 t0)) E N R ↔ W.EV Φ (.dct0 t0) E fun x E1 => ESC (.dct0 t0) x E1 R := W_ret rfl
theorem slI_dct0 {t0} {q0 : Int} : sliceI (.dct0 t0) (.int q0) = some (some q0) := rfl
theorem isPl_dct0 {t0} : isPl (.dct0 t0) = false := rfl
theorem ESC_dct { es x E K} : ESC (.dct es) x E K ↔ K x E := ESC_np rfl
theorem KESC_dct { es x E K} : KESC (.dct es) x E K ↔ K x E := KESC_np rfl
theorem HOLD_dct {w  es x E K} : HOLD w (.dct es) x E K ↔ K x E := HOLD_np rfl
theorem BRW_dct {es w x K} : BRW (.dct es) w x K ↔ K () := BRW_np rfl
theorem Wac_dct {Φ : Phi} {es r E P} : W.EVa Φ ((.dct es) :: r) E P ↔ W.EV Φ (.dct es) E fun x E1 => ESC (.dct es) x E1 fun x E2 => W.EVa Φ r E2 fun xs E3 => P (.inl x :: xs) E3 := W_acons rfl
theorem Wret_dct {Φ : Phi} {es E N R} : W.EX Φ (.ret (.dct es)) E N R ↔ W.EV Φ (.dct es) E fun x E1 => ESC (.dct es) x E1 R := W_ret rfl
theorem slI_dct {es} {q0 : Int} : sliceI (.dct es) (.int q0) = some (some q0) := rfl
theorem isPl_dct {es} : isPl (.dct es) = false := rfl
theorem ESC_inG { n0 e0 x0 x E K} : ESC (.inG n0 e0 x0) x E K ↔ K x E := ESC_np rfl
theorem KESC_inG { n0 e0 x0 x E K} : KESC (.inG n0 e0 x0) x E K ↔ K x E := KESC_np rfl
theorem HOLD_inG {w  n0 e0 x0 x E K} : HOLD w (.inG n0 e0 x0) x E K ↔ K x E := HOLD_np rfl
theorem BRW_inG {n0 e0 x0 w x K} : BRW (.inG n0 e0 x0) w x K ↔ K () := BRW_np rfl
theorem Wac_inG {Φ : Phi} {n0 e0 x0 r E P} : W.EVa Φ ((.inG n0 e0 x0) :: r) E P ↔ W.EV Φ (.inG n0 e0 x0) E fun x E1 => ESC (.inG n0 e0 x0) x E1 fun x E2 => W.EVa Φ r E2 fun xs E3 => P (.inl x :: xs) E3 := W_acons rfl
theorem Wret_inG {Φ : Phi} {n0 e0 x0 E N R} : W.EX Φ (.ret (.inG n0 e0 x0)) E N R ↔ W.EV Φ (.inG n0 e0 x0) E fun x E1 => ESC (.inG n0 e0 x0) x E1 R := W_ret rfl
theorem slI_inG {n0 e0 x0} {q0 : Int} : sliceI (.inG n0 e0 x0) (.int q0) = some (some q0) := rfl
theorem isPl_inG {n0 e0 x0} : isPl (.inG n0 e0 x0) = false := rfl
theorem ESC_call { g es x E K} : ESC (.call g es) x E K ↔ K x E := ESC_np rfl
theorem KESC_call { g es x E K} : KESC (.call g es) x E K ↔ K x E := KESC_np rfl
theorem HOLD_call {w  g es x E K} : HOLD w (.call g es) x E K ↔ K x E := HOLD_np rfl
theorem BRW_call {g es w x K} : BRW (.call g es) w x K ↔ K () := BRW_np rfl
theorem Wac_call {Φ : Phi} {g es r E P} : W.EVa Φ ((.call g es) :: r) E P ↔ W.EV Φ (.call g es) E fun x E1 => ESC (.call g es) x E1 fun x E2 => W.EVa Φ r E2 fun xs E3 => P (.inl x :: xs) E3 := W_acons rfl
theorem Wret_call {Φ : Phi} {g es E N R} : W.EX Φ (.ret (.call g es)) E N R ↔ W.EV Φ (.call g es) E fun x E1 => ESC (.call g es) x E1 R := W_ret rfl
theorem slI_call {g es} {q0 : Int} : sliceI (.call g es) (.int q0) = some (some q0) := rfl
theorem isPl_call {g es} : isPl (.call g es) = false := rfl
theorem ESC_callv { f0 es x E K} : ESC (.callv f0 es) x E K ↔ K x E := ESC_np rfl
theorem KESC_callv { f0 es x E K} : KESC (.callv f0 es) x E K ↔ K x E := KESC_np rfl
theorem HOLD_callv {w  f0 es x E K} : HOLD w (.callv f0 es) x E K ↔ K x E := HOLD_np rfl
theorem BRW_callv {f0 es w x K} : BRW (.callv f0 es) w x K ↔ K () := BRW_np rfl
theorem Wac_callv {Φ : Phi} {f0 es r E P} : W.EVa Φ ((.callv f0 es) :: r) E P ↔ W.EV Φ (.callv f0 es) E fun x E1 => ESC (.callv f0 es) x E1 fun x E2 => W.EVa Φ r E2 fun xs E3 => P (.inl x :: xs) E3 := W_acons rfl
theorem Wret_callv {Φ : Phi} {f0 es E N R} : W.EX Φ (.ret (.callv f0 es)) E N R ↔ W.EV Φ (.callv f0 es) E fun x E1 => ESC (.callv f0 es) x E1 R := W_ret rfl
theorem slI_callv {f0 es} {q0 : Int} : sliceI (.callv f0 es) (.int q0) = some (some q0) := rfl
theorem isPl_callv {f0 es} : isPl (.callv f0 es) = false := rfl
theorem ESC_mut { m i es x E K} : ESC (.mut m i es) x E K ↔ K x E := ESC_np rfl
theorem KESC_mut { m i es x E K} : KESC (.mut m i es) x E K ↔ K x E := KESC_np rfl
theorem HOLD_mut {w  m i es x E K} : HOLD w (.mut m i es) x E K ↔ K x E := HOLD_np rfl
theorem BRW_mut {m i es w x K} : BRW (.mut m i es) w x K ↔ K () := BRW_np rfl
theorem Wac_mut {Φ : Phi} {m i es r E P} : W.EVa Φ ((.mut m i es) :: r) E P ↔ W.EV Φ (.mut m i es) E fun x E1 => ESC (.mut m i es) x E1 fun x E2 => W.EVa Φ r E2 fun xs E3 => P (.inl x :: xs) E3 := W_acons rfl
theorem Wret_mut {Φ : Phi} {m i es E N R} : W.EX Φ (.ret (.mut m i es)) E N R ↔ W.EV Φ (.mut m i es) E fun x E1 => ESC (.mut m i es) x E1 R := W_ret rfl
theorem slI_mut {m i es} {q0 : Int} : sliceI (.mut m i es) (.int q0) = some (some q0) := rfl
theorem isPl_mut {m i es} : isPl (.mut m i es) = false := rfl
theorem ESC_mutP { m p es x E K} : ESC (.mutP m p es) x E K ↔ K x E := ESC_np rfl
theorem KESC_mutP { m p es x E K} : KESC (.mutP m p es) x E K ↔ K x E := KESC_np rfl
theorem HOLD_mutP {w  m p es x E K} : HOLD w (.mutP m p es) x E K ↔ K x E := HOLD_np rfl
theorem BRW_mutP {m p es w x K} : BRW (.mutP m p es) w x K ↔ K () := BRW_np rfl
theorem Wac_mutP {Φ : Phi} {m p es r E P} : W.EVa Φ ((.mutP m p es) :: r) E P ↔ W.EV Φ (.mutP m p es) E fun x E1 => ESC (.mutP m p es) x E1 fun x E2 => W.EVa Φ r E2 fun xs E3 => P (.inl x :: xs) E3 := W_acons rfl
theorem Wret_mutP {Φ : Phi} {m p es E N R} : W.EX Φ (.ret (.mutP m p es)) E N R ↔ W.EV Φ (.mutP m p es) E fun x E1 => ESC (.mutP m p es) x E1 R := W_ret rfl
theorem slI_mutP {m p es} {q0 : Int} : sliceI (.mutP m p es) (.int q0) = some (some q0) := rfl
theorem isPl_mutP {m p es} : isPl (.mutP m p es) = false := rfl
theorem ESC_comp { h0 e0 t0 k0 s0 c0 x E K} : ESC (.comp h0 e0 t0 k0 s0 c0) x E K ↔ K x E := ESC_np rfl
theorem KESC_comp { h0 e0 t0 k0 s0 c0 x E K} : KESC (.comp h0 e0 t0 k0 s0 c0) x E K ↔ K x E := KESC_np rfl
theorem HOLD_comp {w  h0 e0 t0 k0 s0 c0 x E K} : HOLD w (.comp h0 e0 t0 k0 s0 c0) x E K ↔ K x E := HOLD_np rfl
theorem BRW_comp {h0 e0 t0 k0 s0 c0 w x K} : BRW (.comp h0 e0 t0 k0 s0 c0) w x K ↔ K () := BRW_np rfl
theorem Wac_comp {Φ : Phi} {h0 e0 t0 k0 s0 c0 r E P} : W.EVa Φ ((.comp h0 e0 t0 k0 s0 c0) :: r) E P ↔ W.EV Φ (.comp h0 e0 t0 k0 s0 c0) E fun x E1 => ESC (.comp h0 e0 t0 k0 s0 c0) x E1 fun x E2 => W.EVa Φ r E2 fun xs E3 => P (.inl x :: xs) E3 := W_acons rfl
theorem Wret_comp {Φ : Phi} {h0 e0 t0 k0 s0 c0 E N R} : W.EX Φ (.ret (.comp h0 e0 t0 k0 s0 c0)) E N R ↔ W.EV Φ (.comp h0 e0 t0 k0 s0 c0) E fun x E1 => ESC (.comp h0 e0 t0 k0 s0 c0) x E1 R := W_ret rfl
theorem slI_comp {h0 e0 t0 k0 s0 c0} {q0 : Int} : sliceI (.comp h0 e0 t0 k0 s0 c0) (.int q0) = some (some q0) := rfl
theorem isPl_comp {h0 e0 t0 k0 s0 c0} : isPl (.comp h0 e0 t0 k0 s0 c0) = false := rfl
theorem Wac_var {Φ : Phi} {i r E P} : W.EVa Φ ((.var i) :: r) E P ↔ W.EV Φ (.var i) E fun x E1 => ESC (.var i) x E1 fun x E2 => W.EVa Φ r E2 fun xs E3 => P (.inl x :: xs) E3 := W_acons rfl
theorem Wac_ix {Φ : Phi} {a b r E P} : W.EVa Φ ((.ix a b) :: r) E P ↔ W.EV Φ (.ix a b) E fun x E1 => ESC (.ix a b) x E1 fun x E2 => W.EVa Φ r E2 fun xs E3 => P (.inl x :: xs) E3 := W_acons rfl
theorem Wret_ix {Φ : Phi} {a b E N R} : W.EX Φ (.ret (.ix a b)) E N R ↔ W.EV Φ (.ix a b) E fun x E1 => ESC (.ix a b) x E1 R := W_ret rfl
theorem slI_non {d} : sliceI .non d = some none := by cases d <;> rfl
theorem slI_var {x} {q0 : Int} : sliceI (.var x) (.int q0) = some (some q0) := rfl
theorem slI_ix {x y} {q0 : Int} : sliceI (.ix x y) (.int q0) = some (some q0) := rfl
theorem isPl_var {i} : isPl (.var i) = true := rfl
theorem isPl_ix {a b} : isPl (.ix a b) = isPl a := rfl
theorem root_var {i} : root (.var i) = i := rfl
theorem root_ix {a b} : root (.ix a b) = root a := rfl
theorem plain_non : plain .non = true := by rw [plain]
theorem kpl_non : kplain .non = true := rfl
theorem vl_non { w} : vl .non w = (.non, .deep) := vl_t plain_non
theorem isDicD_non : isDicD .non = false := rfl
theorem isNon_non : isNon .non = true := rfl
theorem isLstD_non : isLstD .non = false := rfl
theorem down_nond : down .non .deep = .sh := rfl
theorem down_nont : down .non .top = .sh := rfl
theorem down_nons : down .non .sh = .sh := rfl
theorem scalar_non : scalar .non = true := rfl
theorem isiOk_non : isiOk .non = true := rfl
theorem ty_non_int : tyOf .int .non = false := rfl
theorem ty_non_str : tyOf .str .non = false := rfl
theorem ty_non_bool : tyOf .bool .non = false := rfl
theorem ty_non_list : tyOf .list .non = false := rfl
theorem ty_non_tuple : tyOf .tuple .non = false := rfl
theorem ty_non_dict : tyOf .dict .non = false := rfl
theorem plain_bl {b} : plain (.bl b) = true := by rw [plain]
theorem kpl_bl {b} : kplain (.bl b) = true := rfl
theorem vl_bl {b w} : vl (.bl b) w = ((.bl b), .deep) := vl_t plain_bl
theorem isDicD_bl {b} : isDicD (.bl b) = false := rfl
theorem isNon_bl {b} : isNon (.bl b) = false := rfl
theorem isLstD_bl {b} : isLstD (.bl b) = false := rfl
theorem down_bld {b} : down (.bl b) .deep = .sh := rfl
theorem down_blt {b} : down (.bl b) .top = .sh := rfl
theorem down_bls {b} : down (.bl b) .sh = .sh := rfl
theorem scalar_bl {b} : scalar (.bl b) = true := rfl
theorem isiOk_bl {b} : isiOk (.bl b) = true := rfl
theorem ty_bl_int {b} : tyOf .int (.bl b) = true := rfl
theorem ty_bl_str {b} : tyOf .str (.bl b) = false := rfl
theorem ty_bl_bool {b} : tyOf .bool (.bl b) = true := rfl
theorem ty_bl_list {b} : tyOf .list (.bl b) = false := rfl
theorem ty_bl_tuple {b} : tyOf .tuple (.bl b) = false := rfl
theorem ty_bl_dict {b} : tyOf .dict (.bl b) = false := rfl
theorem plain_int {i} : plain (.int i) = true := by rw [plain]
theorem kpl_int {i} : kplain (.int i) = true := rfl
theorem vl_int {i w} : vl (.int i) w = ((.int i), .deep) := vl_t plain_int
theorem isDicD_int {i} : isDicD (.int i) = false := rfl
theorem isNon_int {i} : isNon (.int i) = false := rfl
theorem isLstD_int {i} : isLstD (.int i) = false := rfl
theorem down_intd {i} : down (.int i) .deep = .sh := rfl
theorem down_intt {i} : down (.int i) .top = .sh := rfl
theorem down_ints {i} : down (.int i) .sh = .sh := rfl
theorem scalar_int {i} : scalar (.int i) = true := rfl
theorem isiOk_int {i} : isiOk (.int i) = true := rfl
theorem ty_int_int {i} : tyOf .int (.int i) = true := rfl
theorem ty_int_str {i} : tyOf .str (.int i) = false := rfl
theorem ty_int_bool {i} : tyOf .bool (.int i) = false := rfl
theorem ty_int_list {i} : tyOf .list (.int i) = false := rfl
theorem ty_int_tuple {i} : tyOf .tuple (.int i) = false := rfl
theorem ty_int_dict {i} : tyOf .dict (.int i) = false := rfl
theorem plain_str {s} : plain (.str s) = true := by rw [plain]
theorem kpl_str {s} : kplain (.str s) = true := rfl
theorem vl_str {s w} : vl (.str s) w = ((.str s), .deep) := vl_t plain_str
theorem isDicD_str {s} : isDicD (.str s) = false := rfl
theorem isNon_str {s} : isNon (.str s) = false := rfl
theorem isLstD_str {s} : isLstD (.str s) = false := rfl
theorem down_strd {s} : down (.str s) .deep = .sh := rfl
theorem down_strt {s} : down (.str s) .top = .sh := rfl
theorem down_strs {s} : down (.str s) .sh = .sh := rfl
theorem scalar_str {s} : scalar (.str s) = true := rfl
theorem isiOk_str {s} : isiOk (.str s) = true := rfl
theorem ty_str_int {s} : tyOf .int (.str s) = false := rfl
theorem ty_str_str {s} : tyOf .str (.str s) = true := rfl
theorem ty_str_bool {s} : tyOf .bool (.str s) = false := rfl
theorem ty_str_list {s} : tyOf .list (.str s) = false := rfl
theorem ty_str_tuple {s} : tyOf .tuple (.str s) = false := rfl
theorem ty_str_dict {s} : tyOf .dict (.str s) = false := rfl
theorem plain_fn {g} : plain (.fn g) = true := by rw [plain]
theorem kpl_fn {g} : kplain (.fn g) = true := rfl
theorem vl_fn {g w} : vl (.fn g) w = ((.fn g), .deep) := vl_t plain_fn
theorem isDicD_fn {g} : isDicD (.fn g) = false := rfl
theorem isNon_fn {g} : isNon (.fn g) = false := rfl
theorem isLstD_fn {g} : isLstD (.fn g) = false := rfl
theorem down_fnd {g} : down (.fn g) .deep = .sh := rfl
theorem down_fnt {g} : down (.fn g) .top = .sh := rfl
theorem down_fns {g} : down (.fn g) .sh = .sh := rfl
theorem scalar_fn {g} : scalar (.fn g) = false := rfl
theorem ty_fn_int {g} : tyOf .int (.fn g) = false := rfl
theorem ty_fn_str {g} : tyOf .str (.fn g) = false := rfl
theorem ty_fn_bool {g} : tyOf .bool (.fn g) = false := rfl
theorem ty_fn_list {g} : tyOf .list (.fn g) = false := rfl
theorem ty_fn_tuple {g} : tyOf .tuple (.fn g) = false := rfl
theorem ty_fn_dict {g} : tyOf .dict (.fn g) = false := rfl
theorem plain_scr {n} : plain (.scr n) = true := by rw [plain]
theorem kpl_scr {n} : kplain (.scr n) = true := rfl
theorem vl_scr {n w} : vl (.scr n) w = ((.scr n), .deep) := vl_t plain_scr
theorem isDicD_scr {n} : isDicD (.scr n) = false := rfl
theorem isNon_scr {n} : isNon (.scr n) = false := rfl
theorem isLstD_scr {n} : isLstD (.scr n) = false := rfl
theorem down_scrd {n} : down (.scr n) .deep = .sh := rfl
theorem down_scrt {n} : down (.scr n) .top = .sh := rfl
theorem down_scrs {n} : down (.scr n) .sh = .sh := rfl
theorem scalar_scr {n} : scalar (.scr n) = false := rfl
theorem ty_scr_int {n} : tyOf .int (.scr n) = false := rfl
theorem ty_scr_str {n} : tyOf .str (.scr n) = false := rfl
theorem ty_scr_bool {n} : tyOf .bool (.scr n) = false := rfl
theorem ty_scr_list {n} : tyOf .list (.scr n) = false := rfl
theorem ty_scr_tuple {n} : tyOf .tuple (.scr n) = false := rfl
theorem ty_scr_dict {n} : tyOf .dict (.scr n) = false := rfl
theorem plain_tup {xs} : plain (.tup xs) = plains xs := by rw [plain]
theorem kpl_tup {xs} : kplain (.tup xs) = plains xs := rfl
theorem vl_tup {xs w} : vl (.tup xs) w = if plains xs = true then ((.tup xs), .deep) else ((.tup xs), w) := by unfold vl; rw [plain_tup]
theorem isDicD_tup {xs} : isDicD (.tup xs) = false := rfl
theorem isNon_tup {xs} : isNon (.tup xs) = false := rfl
theorem isLstD_tup {xs} : isLstD (.tup xs) = false := rfl
theorem down_tupd {xs} : down (.tup xs) .deep = .sh := rfl
theorem down_tupt {xs} : down (.tup xs) .top = .sh := rfl
theorem down_tups {xs} : down (.tup xs) .sh = .sh := rfl
theorem scalar_tup {xs} : scalar (.tup xs) = false := rfl
theorem isiOk_tup {xs} : isiOk (.tup xs) = true := rfl
theorem ty_tup_int {xs} : tyOf .int (.tup xs) = false := rfl
theorem ty_tup_str {xs} : tyOf .str (.tup xs) = false := rfl
theorem ty_tup_bool {xs} : tyOf .bool (.tup xs) = false := rfl
theorem ty_tup_list {xs} : tyOf .list (.tup xs) = false := rfl
theorem ty_tup_tuple {xs} : tyOf .tuple (.tup xs) = true := rfl
theorem ty_tup_dict {xs} : tyOf .dict (.tup xs) = false := rfl
theorem plain_lst {xs} : plain (.lst xs) = false := by rw [plain]
theorem kpl_lst {xs} : kplain (.lst xs) = plains xs := rfl
theorem vl_lst {xs w} : vl (.lst xs) w = ((.lst xs), w) := vl_f plain_lst
theorem isDicD_lst {xs} : isDicD (.lst xs) = false := rfl
theorem isNon_lst {xs} : isNon (.lst xs) = false := rfl
theorem isLstD_lst {xs} : isLstD (.lst xs) = true := rfl
theorem down_lstd {xs} : down (.lst xs) .deep = .top := rfl
theorem down_lstt {xs} : down (.lst xs) .top = .top := rfl
theorem down_lsts {xs} : down (.lst xs) .sh = .sh := rfl
theorem scalar_lst {xs} : scalar (.lst xs) = false := rfl
theorem isiOk_lst {xs} : isiOk (.lst xs) = true := rfl
theorem ty_lst_int {xs} : tyOf .int (.lst xs) = false := rfl
theorem ty_lst_str {xs} : tyOf .str (.lst xs) = false := rfl
theorem ty_lst_bool {xs} : tyOf .bool (.lst xs) = false := rfl
theorem ty_lst_list {xs} : tyOf .list (.lst xs) = true := rfl
theorem ty_lst_tuple {xs} : tyOf .tuple (.lst xs) = false := rfl
theorem ty_lst_dict {xs} : tyOf .dict (.lst xs) = false := rfl
theorem plain_dic {t k} : plain (.dic t k) = false := by rw [plain]
theorem kpl_dic {t k} : kplain (.dic t k) = plains (vals k) := rfl
theorem vl_dic {t k w} : vl (.dic t k) w = ((.dic t k), w) := vl_f plain_dic
theorem isDicD_dic {t k} : isDicD (.dic t k) = true := rfl
theorem isNon_dic {t k} : isNon (.dic t k) = false := rfl
theorem isLstD_dic {t k} : isLstD (.dic t k) = false := rfl
theorem down_dicd {t k} : down (.dic t k) .deep = .top := rfl
theorem down_dict {t k} : down (.dic t k) .top = .top := rfl
theorem down_dics {t k} : down (.dic t k) .sh = .sh := rfl
theorem scalar_dic {t k} : scalar (.dic t k) = false := rfl
theorem ty_dic_int {t k} : tyOf .int (.dic t k) = false := rfl
theorem ty_dic_str {t k} : tyOf .str (.dic t k) = false := rfl
theorem ty_dic_bool {t k} : tyOf .bool (.dic t k) = false := rfl
theorem ty_dic_list {t k} : tyOf .list (.dic t k) = false := rfl
theorem ty_dic_tuple {t k} : tyOf .tuple (.dic t k) = false := rfl
theorem ty_dic_dict {t k} : tyOf .dict (.dic t k) = true := rfl
theorem isiOk_dic {k} : isiOk (.dic false k) = true := rfl
theorem plains_nil : plains [] = true := by rw [plains]
theorem plains_cons {x xs} : plains (x :: xs) = (plain x && plains xs) := by rw [plains]
theorem scalars_nil : scalars [] = true := rfl
theorem scalars_cons {x xs} : scalars (x :: xs) = (scalar x && scalars xs) := rfl
theorem kid_deep : kid .deep = .deep := rfl
theorem kid_top : kid .top = .sh := rfl
theorem kid_sh : kid .sh = .sh := rfl
theorem allDeep_nil : allDeep [] = true := rfl
theorem allDeep_deep {d xs} : allDeep ((d, .deep) :: xs) = allDeep xs := by simp [allDeep]
theorem allDeep_sh {d xs} : allDeep ((d, .sh) :: xs) = (plain d && allDeep xs) := by simp [allDeep]
theorem allDeep_top {d xs} : allDeep ((d, .top) :: xs) = (plain d && allDeep xs) := by simp [allDeep]
theorem sh_deep {α : Sort _} {a b : α} : (if Ow.sh = Ow.deep then a else b) = b := rfl
theorem mkTup_ite {xs} : mkTup xs = if allDeep xs = true then (.tup (ds xs), .deep) else vl (.tup (ds xs)) .sh := by
  unfold mkTup
  split
  · unfold vl; split <;> rfl
  · rfl
theorem mkLst_ite {xs} : mkLst xs = if allDeep xs = true then (.lst (ds xs), .deep) else (.lst (ds xs), .top) := by unfold mkLst; split <;> rfl
theorem newLst_ite {xs w} : newLst xs w = if plains xs = true then (.lst xs, .deep) else if w = .deep then (.lst xs, .deep) else (.lst xs, .top) := by
  unfold newLst
  split
  · rfl
  · split <;> rfl
theorem wr_int {i} : wr (.int i) = [] := by simp
theorem wr_str {s} : wr (.str s) = [] := by simp
theorem wr_bl {b} : wr (.bl b) = [] := by simp
theorem wr_non : wr .non = [] := by simp
theorem wr_glo {d} : wr (.glo d) = [] := by simp
theorem wr_var {i} : wr (.var i) = [] := by simp
theorem wr_dct0 {t} : wr (.dct0 t) = [] := by simp
theorem wr_io {i} : wr (.io i) = [i] := by simp
theorem wr_ix {a b} : wr (.ix a b) = wr a ++ wr b := by simp
theorem wr_sl {a b c} : wr (.sl a b c) = (if isPl a = true then [root a] else []) ++ (wr a ++ (wr b ++ wr c)) := by simp
theorem wr_op1 {o a} : wr (.op1 o a) = wr a := by simp
theorem wr_op2 {o a b} : wr (.op2 o a b) = wr a ++ wr b := by simp
theorem wr_opP {o a} : wr (.opP o a) = (if isPl a = true then [root a] else []) ++ wr a := by simp
theorem wr_cat {a b} : wr (.cat a b) = ((if isPl a = true then [root a] else []) ++ wr a) ++ ((if isPl b = true then [root b] else []) ++ wr b) := by simp
theorem wr_rep {a b} : wr (.rep a b) = wr a ++ wr b := by simp
theorem wr_and {a b} : wr (.and a b) = wr a ++ wr b := by simp
theorem wr_or {a b} : wr (.or a b) = wr a ++ wr b := by simp
theorem wr_tup {es} : wr (.tup es) = wrs es := by simp
theorem wr_lst {es} : wr (.lst es) = wrs es := by simp
theorem wr_call {g es} : wr (.call g es) = wrs es := by simp
theorem wrS_skip  : wrS .skip = [] := by rw [wrS]
theorem wrS_seq {a b} : wrS (.seq a b) = wrS a ++ wrS b := by rw [wrS]
theorem wrS_set {tg e} : wrS (.set tg e) = tgs tg ++ wrx e := by rw [wrS]
theorem wrS_setIx {i k e} : wrS (.setIx i k e) = i :: (wr k ++ wrx e) := by rw [wrS]
theorem wrS_setP {p k e} : wrS (.setP p k e) = root p :: (wr p ++ (wr k ++ wrx e)) := by rw [wrS]
theorem wrS_expr {e} : wrS (.expr e) = wr e := by rw [wrS]
theorem wrS_ite {c a b} : wrS (.ite c a b) = wr c ++ (wrS a ++ wrS b) := by rw [wrS]
theorem wrS_for_ {tg k es body} : wrS (.for_ tg k es body) = tgs tg ++ (wrs es ++ wrS body) := by rw [wrS]
theorem wrS_whl {c body} : wrS (.whl c body) = wr c ++ wrS body := by rw [wrS]
theorem wrS_ret {e} : wrS (.ret e) = wrx e := by rw [wrS]
theorem wrS_retn  : wrS .retn = [] := by rw [wrS]
theorem wr_ife {c a b} : wr (.ife c a b) = wr c ++ (((if isPl a = true then [root a] else []) ++ wr a) ++ ((if isPl b = true then [root b] else []) ++ wr b)) := by rw [wr]
theorem wr_inG {n e x} : wr (.inG n e x) = wr e := by rw [wr]
theorem wr_callv {f es} : wr (.callv f es) = wr f ++ wrs es := by rw [wr]
theorem wr_mut {m i es} : wr (.mut m i es) = i :: wrs es := by rw [wr]
theorem wr_mutP {m p es} : wr (.mutP m p es) = root p :: (wr p ++ wrs es) := by rw [wr]
theorem wr_compv {h elt i k es cond} : wr (.comp h elt (.v i) k es cond) = [i] ++ (((if isPl elt = true then [root elt] else []) ++ wr elt) ++ (wrs es ++ wr cond)) := by rw [wr]
theorem wr_compt {h elt i k es cond} : wr (.comp h elt (.t i) k es cond) = i ++ (((if isPl elt = true then [root elt] else []) ++ wr elt) ++ (wrs es ++ wr cond)) := by rw [wr]
theorem wrs_nil : wrs [] = [] := by simp
theorem wrs_cons {e es} : wrs (e :: es) = ((if isPl e = true then [root e] else []) ++ wr e) ++ wrs es := by simp
theorem wrx_def {e} : wrx e = (if isPl e = true then [root e] else []) ++ wr e := by simp
theorem tgs_v {i} : tgs (.v i) = [i] := rfl
theorem tgs_t {i} : tgs (.t i) = i := rfl
theorem isIo_io {i} : isIo (.io i) = true := rfl
theorem natAbs_lit {n : Nat} : Int.natAbs (no_index (OfNat.ofNat n)) = n := rfl
end BS

set_option Elab.async false
set_option linter.all false
set_option maxRecDepth 100000
set_option maxHeartbeats 2000000
/-! Calls, loops, comprehensions: rules that a proof names. -/
namespace BS
open PySem L2
section
variable {Φ : Phi}
theorem cl {g vs P Q} (h : CL Φ g vs P) (k : ∀ r os, P r os → Q r os) : W.CL Φ g vs Q := CL.imp h k
theorem cl_def (b : Ss) {tab : Nat → Option Def} {n g : Nat} {d : Def} {vs P} (ht : tab g = some d) (hl : vs.length = d.np) (hb : d.body = b) (h : W.EX (call tab n) b (vs.map some ++ List.replicate (d.ns - d.np) none) (fun E => P (.non, .deep) (outs d E)) (fun x E => P x (outs d E))) : CL (call tab (n + 1)) g vs P := CL_def ht hl (by rw [hb]; exact h)
/-- a cut: what holds behind a statement -/
theorem EX_cut {s E N R} (M : En → Prop) (h : EX Φ s E M R) (k : ∀ E', M E' → N E') : W.EX Φ s E N R := EX.imp h k fun _ _ z => z
theorem EV_cut {e E P} (Q : Val → En → Prop) (h : EV Φ e E Q) (k : ∀ x E', Q x E' → P x E') : W.EV Φ e E P := EV.imp h k
/-- a test that changes nothing -/
theorem EX_if {c a b E N R} (p : Bool) (h : W.EV Φ c E fun x E1 => x.1 = .bl p ∧ E1 = E) (h1 : p = true → W.EX Φ a E N R) (h2 : p = false → W.EX Φ b E N R) : W.EX Φ (.ite c a b) E N R := by
  refine EX_ite.mpr (EV.imp h ?_)
  rintro x E1 ⟨hx, rfl⟩
  cases p with
  | true => exact .inl ⟨hx, h1 rfl⟩
  | false => exact .inr ⟨hx, h2 rfl⟩
theorem EX_ifd {c a b E N R} (p : Prop) [Decidable p] (h : W.EV Φ c E fun x E1 => x.1 = .bl (decide p) ∧ E1 = E) (h1 : p → W.EX Φ a E N R) (h2 : ¬p → W.EX Φ b E N R) : W.EX Φ (.ite c a b) E N R := EX_if (decide p) h (fun z => h1 (of_decide_eq_true z)) fun z => h2 (of_decide_eq_false z)
theorem EX_ifT {c a b E N R} (h : W.EV Φ c E fun x E1 => x.1 = .bl true ∧ E1 = E) (h1 : W.EX Φ a E N R) : W.EX Φ (.ite c a b) E N R := EX_if true h (fun _ => h1) fun z => by cases z
theorem EX_ifF {c a b E N R} (h : W.EV Φ c E fun x E1 => x.1 = .bl false ∧ E1 = E) (h1 : W.EX Φ b E N R) : W.EX Φ (.ite c a b) E N R := EX_if false h (fun z => by cases z) fun _ => h1
/-- both branches lead to one place -/
theorem BR_cut {p : Prop} [Decidable p] {a b E N R} (M : En → Prop) (h1 : p → W.EX Φ a E M R) (h2 : ¬p → W.EX Φ b E M R) (k : ∀ E', M E' → N E') : BR (.bl (decide p)) (fun _ => W.EX Φ a E N R) (fun _ => W.EX Φ b E N R) := BR_d (fun h => EX.imp (h1 h) k fun _ _ z => z) fun h => EX.imp (h2 h) k fun _ _ z => z
theorem BR_cutb {p : Bool} {a b E N R} (M : En → Prop) (h1 : p = true → W.EX Φ a E M R) (h2 : p = false → W.EX Φ b E M R) (k : ∀ E', M E' → N E') : BR (.bl p) (fun _ => W.EX Φ a E N R) (fun _ => W.EX Φ b E N R) := BR_b (fun h => EX.imp (h1 h) k fun _ _ z => z) fun h => EX.imp (h2 h) k fun _ _ z => z
theorem rng_length {lo c : Int} : ∀ {n i : Nat}, (rng lo c i n).length = n
  | 0, _ => rfl
  | n + 1, i => by rw [rng, List.length_cons, rng_length]
theorem rng_get {lo c : Int} : ∀ {n i k : Nat} (h : k < (rng lo c i n).length), (rng lo c i n)[k] = .int (lo + ((i + k : Nat) : Int) * c)
  | n + 1, i, 0, h => by simp [rng]
  | n + 1, i, k + 1, h => by
    simp only [rng, List.getElem_cons_succ]
    rw [rng_get]
    congr 3
    omega
  | 0, _, _, h => by simp [rng] at h
theorem W_FLnil {tg body E N R} : W.FL Φ tg body [] E N R ↔ N E := FL_nil
theorem W_FLcons {tg body d its E N R} : W.FL Φ tg body (d :: its) E N R ↔ OP (bindT tg (shv d) E) fun E1 => W.EX Φ body E1 (fun E2 => W.FL Φ tg body its E2 N R) R := FL_cons
theorem rng_map {lo c : Int} {n : Nat} : rng lo c 0 n = (List.range n).map fun (k : Nat) => D.int (lo + (k : Int) * c) := by
  apply List.ext_getElem
  · rw [rng_length]; simp
  · intro i h1 h2
    rw [rng_get h1]
    simp
/-- a loop by place -/
theorem FL_ix {tg body its E N R} (I : Nat → En → Prop) (h0 : I 0 E) (hs : ∀ k E (h : k < its.length), I k E → OP (bindT tg (shv its[k]) E) fun E1 => W.EX Φ body E1 (fun E2 => I (k + 1) E2) R) (hN : ∀ E, I its.length E → N E) : W.FL Φ tg body its E N R := by
  refine FL_inv (fun a b E => a ++ b = its ∧ I a.length E) ⟨rfl, h0⟩ ?_ ?_
  · rintro a d b E ⟨e, hi⟩ _
    subst e
    have hk : a.length < (a ++ d :: b).length := by simp
    obtain ⟨E1, h1, h2⟩ := hs a.length E hk hi
    refine ⟨E1, by rw [← h1]; simp, ?_⟩
    refine EX.imp h2 (fun E2 h3 => ⟨by simp, by rw [List.length_append]; exact h3⟩) fun _ _ z => z
  · rintro E ⟨e, hi⟩
    exact hN E hi
/-- .. over a range -/
theorem FL_rng {i : Nat} {lo c : Int} {n : Nat} {body E N R} (I : Nat → En → Prop) (h0 : I 0 E) (hs : ∀ k E, k < n → I k E → W.EX Φ body (E.set i (some (.int (lo + (k : Int) * c), .deep))) (fun E2 => I (k + 1) E2) R) (hN : ∀ E, I n E → N E) : W.FL Φ (.v i) body (rng lo c 0 n) E N R := by
  refine FL_ix I h0 (fun k E h hi => ?_) (fun E h => hN E (by rw [rng_length] at h; exact h))
  rw [rng_get h]
  rw [rng_length] at h
  refine OP_of rfl ?_
  have := hs k E h hi
  rw [Nat.zero_add]
  exact this
/-- .. by ones -/
theorem FL_r1 {i : Nat} {lo : Int} {n : Nat} {body E N R} (I : Nat → En → Prop) (h0 : I 0 E) (hs : ∀ k E, k < n → I k E → W.EX Φ body (E.set i (some (.int (lo + (k : Int)), .deep))) (fun E2 => I (k + 1) E2) R) (hN : ∀ E, I n E → N E) : W.FL Φ (.v i) body (rng lo 1 0 n) E N R :=
  FL_rng I h0 (fun k E h hi => by rw [Int.mul_one]; exact hs k E h hi) hN
/-- .. from nought -/
theorem FL_r0 {i : Nat} {n : Nat} {body E N R} (I : Nat → En → Prop) (h0 : I 0 E) (hs : ∀ k E, k < n → I k E → W.EX Φ body (E.set i (some (.int (k : Int), .deep))) (fun E2 => I (k + 1) E2) R) (hN : ∀ E, I n E → N E) : W.FL Φ (.v i) body (rng 0 1 0 n) E N R :=
  FL_r1 I h0 (fun k E h hi => by rw [Int.zero_add]; exact hs k E h hi) hN
/-- a comprehension by place -/
theorem CP_ix {shr elt tg cond its E P} (I : Nat → List D → En → Prop) (h0 : I 0 [] E)
    (hs : ∀ k acc E (h : k < its.length), I k acc E → OP (bindT tg (shv its[k]) (wipes (tgs tg) E)) fun E1 => W.EV Φ cond E1 fun c E2 => BR c.1 (fun _ => W.EV Φ elt E2 fun y E3 => ESC elt y E3 fun y E4 => (plain y.1 || shr || decide (y.2 = .deep)) = true ∧ I (k + 1) (acc ++ [y.1]) E4) fun _ => I (k + 1) acc E2)
    (hN : ∀ acc E, I its.length acc E → P acc E) : W.CP Φ shr elt tg cond its E [] P := by
  refine CP_inv (fun a b acc E => a ++ b = its ∧ I a.length acc E) ⟨rfl, h0⟩ ?_ ?_
  · rintro a d b acc E ⟨e, hi⟩ _
    subst e
    have hk : a.length < (a ++ d :: b).length := by simp
    obtain ⟨E1, h1, h2⟩ := hs a.length acc E hk hi
    refine ⟨E1, by rw [← h1]; simp, ?_⟩
    refine EV.imp h2 fun c E2 h3 => ?_
    rcases h3 with ⟨hc, h3⟩ | ⟨hc, h3⟩
    · exact .inl ⟨hc, EV.imp h3 fun y E3 h4 => ⟨h4.1, by simp, by rw [List.length_append]; exact h4.2⟩⟩
    · exact .inr ⟨hc, by simp, by rw [List.length_append]; exact h3⟩
  · rintro acc E ⟨e, hi⟩
    exact hN acc E hi
/- only the target's slots change -/
theorem wipes_get (is : List Nat) (E : En) (j : Nat) : (wipes is E)[j]? = if j ∈ is then (E[j]?).map fun _ => none else E[j]? := by
  induction is with
  | nil => simp [wipes]
  | cons i is ih =>
    simp only [wipes, List.getElem?_set, List.mem_cons]
    by_cases h : i = j
    · subst h
      have hl : (wipes is E).length = E.length := by
        clear ih
        induction is with
        | nil => rfl
        | cons a b ih => simp [wipes, ih]
      simp only [if_true, hl, true_or]
      by_cases hj : i < E.length
      · simp [hj]
      · simp [hj]
    · rw [if_neg h, ih]
      have : j ≠ i := fun e => h e.symm
      simp [this]
theorem wipesLen (is : List Nat) (E : En) : (wipes is E).length = E.length := by
  induction is with
  | nil => rfl
  | cons a b ih => simp [wipes, ih]
theorem back_get (is : List Nat) (E0 E : En) (hl : E.length = E0.length) (h : ∀ j, j ∉ is → E[j]? = E0[j]?) : back is E0 E = E0 := by
  have key : ∀ (is : List Nat) (j : Nat), (back is E0 E)[j]? = if j ∈ is then E0[j]? else E[j]? := by
    intro is
    induction is with
    | nil => simp [back]
    | cons i is ih =>
      intro j
      have hl' : (back is E0 E).length = E0.length := by
        clear ih
        induction is with
        | nil => exact hl
        | cons a b ih => simp [back, ih]
      simp only [back, List.getElem?_set, List.mem_cons]
      by_cases e : i = j
      · subst e
        rw [if_pos rfl, hl']
        by_cases hj : i < E0.length
        · simp [hj]
        · simp [hj, List.getElem?_eq_none_iff.mpr (Nat.le_of_not_lt hj)]
      · rw [if_neg e, ih]
        have : j ≠ i := fun z => e z.symm
        simp [this]
  apply List.ext_getElem?
  intro j
  rw [key]
  split
  · rfl
  · exact h j ‹_›
theorem binds_off : ∀ (is : List Nat) (ds : List D) (w : Ow) (E E1 : En), binds is ds w E = some E1 → E1.length = E.length ∧ ∀ j, j ∉ is → E1[j]? = E[j]?
  | [], [], w, E, E1, h => by cases h; exact ⟨rfl, fun _ _ => rfl⟩
  | i :: is, d :: ds, w, E, E1, h => by
    have := binds_off is ds w _ E1 h
    refine ⟨by rw [this.1]; simp, fun j hj => ?_⟩
    rw [this.2 j (fun z => hj (.tail _ z)), List.getElem?_set]
    rw [if_neg fun e => hj (by subst e; exact .head _)]
  | [], _ :: _, _, _, _, h => by cases h
  | _ :: _, [], _, _, _, h => by cases h
theorem bindT_off {tg : Tg} {x : Val} {E E1 : En} (h : bindT tg x E = some E1) : E1.length = E.length ∧ ∀ j, j ∉ tgs tg → E1[j]? = E[j]? := by
  cases tg with
  | v i =>
    cases h
    refine ⟨by simp, fun j hj => ?_⟩
    rw [List.getElem?_set, if_neg]
    intro e
    subst e
    exact hj (.head _)
  | t is =>
    obtain ⟨d, w⟩ := x
    cases d <;> simp only [bindT, reduceCtorEq] at h
    split at h
    · exact binds_off _ _ _ _ _ h
    · cases h
/-- a comprehension that changes nothing -/
theorem CP_pure {α : Type} {shr elt tg cond E} {xs : List α} {K : List D → En → Prop} (f : α → D) (p : α → Bool) (g : α → D)
    (h : ∀ x ∈ xs, OP (bindT tg (shv (f x)) (wipes (tgs tg) E)) fun E1 => W.EV Φ cond E1 fun c E2 => c.1 = .bl (p x) ∧ E2 = E1 ∧ (p x = true → W.EV Φ elt E1 fun y E3 => ESC elt y E3 fun y E4 => E4 = E1 ∧ (plain y.1 || shr || decide (y.2 = .deep)) = true ∧ y.1 = g x))
    (k : K ((xs.filter p).map g) E) :
    W.CP Φ shr elt tg cond (xs.map f) E [] fun acc E2 => PUT (back (tgs tg) E E2) fun E3 => K acc E3 := by
  have key : ∀ (b a : List α) (E0 : En), xs = a ++ b → E0.length = E.length → (∀ j, j ∉ tgs tg → E0[j]? = E[j]?) → CP Φ shr elt tg cond (b.map f) E0 ((a.filter p).map g) fun acc E2 => K acc (back (tgs tg) E E2) := by
    intro b
    induction b with
    | nil =>
      intro a E0 e hl0 h0
      rw [List.append_nil] at e
      subst e
      refine CP_nil.mpr ?_
      rw [back_get _ _ _ hl0 h0]
      exact k
    | cons x b ih =>
      intro a E0 e hl0 h0
      have hw : wipes (tgs tg) E0 = wipes (tgs tg) E := by
        apply List.ext_getElem?
        intro j
        rw [wipes_get, wipes_get]
        split
        · by_cases hj : j < E.length
          · rw [List.getElem?_eq_getElem hj, List.getElem?_eq_getElem (by omega)]; rfl
          · rw [List.getElem?_eq_none_iff.mpr (by omega), List.getElem?_eq_none_iff.mpr (by omega)]
        · exact h0 j ‹_›
      obtain ⟨E1, h1, h2⟩ := h x (by subst e; simp)
      have off := bindT_off h1
      have hl1 : E1.length = E.length := by rw [off.1, wipesLen]
      have h01 : ∀ j, j ∉ tgs tg → E1[j]? = E[j]? := fun j hj => by rw [off.2 j hj, wipes_get, if_neg hj]
      have hnext := ih (a ++ [x]) E1 (by subst e; simp) hl1 h01
      refine CP_cons ⟨E1, by rw [hw]; exact h1, ?_⟩
      obtain ⟨c, E2, h3, h4, h5, h6⟩ := h2
      subst h5
      refine ⟨c, E2, h3, ?_⟩
      cases hp : p x with
      | true =>
        rw [hp] at h4
        obtain ⟨y, E3, h7, h8⟩ := h6 hp
        refine .inl ⟨h4, y, E3, h7, h8.2.1, ?_⟩
        rw [h8.1, h8.2.2]
        rw [List.filter_append, List.map_append] at hnext
        simpa [hp] using hnext
      | false =>
        rw [hp] at h4
        refine .inr ⟨h4, ?_⟩
        rw [List.filter_append, List.map_append] at hnext
        simpa [hp] using hnext
  exact key xs [] E rfl rfl fun _ _ => rfl
end
end BS

set_option Elab.async false
set_option linter.all false
set_option maxRecDepth 100000
set_option maxHeartbeats 2000000
/-! Texts as lists of signs. -/
namespace BS
open PySem L2
abbrev S (l : List Nat) : Str := ⟨l.toArray⟩
def tx (l : List Nat) : D := .str (S l)
theorem S_of (s : Str) : ∃ l, s = S l := ⟨s.cps.toList, (SX.S_tl s).symm⟩
theorem str_S {l : List Nat} : D.str (S l) = tx l := rfl
theorem S_inj {a b : List Nat} : S a = S b ↔ a = b := ⟨SX.S_inj, fun e => by rw [e]⟩
theorem tx_inj {a b : List Nat} : tx a = tx b ↔ a = b := ⟨fun h => by unfold tx at h; exact SX.S_inj (D.str.inj h), fun e => by rw [e]⟩
theorem S_len {a : List Nat} : (S a).length = a.length := SX.S_len a
theorem S_cat {a b : List Nat} : S a ++ S b = S (a ++ b) := SX.S_cat a b
theorem plain_tx {a} : plain (tx a) = true := plain_str
theorem kplain_tx {a} : kplain (tx a) = true := rfl
theorem scalar_tx {a} : scalar (tx a) = true := rfl
theorem vl_tx {a w} : vl (tx a) w = (tx a, .deep) := vl_t plain_tx
theorem isNon_tx {a} : isNon (tx a) = false := rfl
theorem isDicD_tx {a} : isDicD (tx a) = false := rfl
theorem isiOk_tx {a} : isiOk (tx a) = true := rfl
theorem ty_tx_str {a} : tyOf .str (tx a) = true := rfl
theorem ty_tx_int {a} : tyOf .int (tx a) = false := rfl
theorem ty_tx_bool {a} : tyOf .bool (tx a) = false := rfl
theorem ty_tx_list {a} : tyOf .list (tx a) = false := rfl
theorem ty_tx_tuple {a} : tyOf .tuple (tx a) = false := rfl
theorem ty_tx_dict {a} : tyOf .dict (tx a) = false := rfl
theorem len_tx {a} : lenD (tx a) = some (a.length : Int) := by unfold tx; rw [len_str, S_len]
theorem item_tx {a i} : item (tx a) (.int i) = (atI a i).map fun c => tx [c] := by unfold tx; rw [item_str']
theorem a2_addt {a b} : app2 .add (tx a) (tx b) = if a.length + b.length ≤ line then some (tx (a ++ b)) else none := by
  unfold tx; rw [a2_adds, S_len, S_len, S_cat]
theorem deq_tx {a b} : deq (tx a) (tx b) = decide (a = b) := by
  unfold tx
  rw [deq_str]
  by_cases h : a = b
  · rw [decide_eq_true h, decide_eq_true (by rw [h])]
  · rw [decide_eq_false h, decide_eq_false fun e => h (SX.S_inj e)]
theorem a2_eqt {a b} : app2 .eq (tx a) (tx b) = some (.bl (decide (a = b))) := by rw [a2_eq, deq_tx]; rfl
theorem a2_net {a b} : app2 .ne (tx a) (tx b) = some (.bl (!decide (a = b))) := by rw [a2_ne, deq_tx]; rfl
theorem strsOf_tx {l : List (List Nat)} : strsOf (l.map tx) = some (l.map S) := by
  induction l with
  | nil => rfl
  | cons a l ih => rw [List.map_cons, List.map_cons]; unfold tx; rw [strsOf]; rw [show strsOf (List.map (fun l => D.str (S l)) l) = some (l.map S) from ih]; rfl
theorem a2_join {a} {l : List (List Nat)} : app2 .join (tx a) (.lst (l.map tx)) = if (l.map List.length).sum + l.length * a.length ≤ line then some (tx (TL.joinL a l)) else none := by
  show (match strsOf (l.map tx) with | some ys => if (List.map (fun (x : Str) => x.length) ys).sum + ys.length * (S a).length ≤ line then some (D.str (Txt.join (S a) ys)) else none | none => none) = _
  rw [strsOf_tx]
  simp only [List.map_map, List.length_map, S_len]
  have e : (fun x => Str.length x) ∘ S = List.length := by funext x; exact S_len
  rw [e, show (l.map S) = l.map SX.S from rfl, SX.join_S]
  rfl
theorem joinL_nil : ∀ l : List (List Nat), TL.joinL [] l = l.flatten
  | [] => rfl
  | [p] => by simp [TL.joinL]
  | p :: q :: r => by rw [TL.joinL, joinL_nil (q :: r)]; simp
theorem a2_joine {l : List (List Nat)} : app2 .join (tx []) (.lst (l.map tx)) = if (l.map List.length).sum ≤ line then some (tx l.flatten) else none := by
  rw [a2_join, joinL_nil]
  simp
theorem a2_mult {a k} : app2 .mul (tx a) (.int k) = if 0 ≤ k ∧ k < 2 ^ 62 ∧ a.length * k.toNat ≤ line then some (tx (List.replicate k.toNat a).flatten) else none := by
  unfold tx
  rw [a2_muls, S_len]
  have e : srep (S a) k = S (List.replicate k.toNat a).flatten := by
    unfold srep
    split
    · have : k.toNat = 0 := by omega
      rw [this]; rfl
    · split
      · rename_i h1 h2
        rw [Bool.or_eq_true] at h2
        rcases h2 with h2 | h2
        · have : k = 1 := by simpa using h2
          subst this
          simp
        · have : a = [] := by
            have := S_len (a := a)
            have h3 : (S a).length = 0 := by simpa using h2
            rw [this] at h3
            exact List.length_eq_zero_iff.mp h3
          subst this
          simp
      · have key : ∀ (n : Nat) (acc : List Nat), ((List.replicate n (S a).cps).foldl (· ++ ·) acc.toArray) = (acc ++ (List.replicate n a).flatten).toArray := by
          intro n
          induction n with
          | zero => intro acc; simp
          | succ n ih => intro acc; simp only [List.replicate_succ, List.foldl_cons, List.flatten_cons, List.append_toArray]; rw [ih]; simp
        have := key k.toNat []
        simp only [List.nil_append] at this
        unfold S
        rw [← this]
  rw [e]
theorem it_tx {a} : items .of [tx a] = some (a.map fun c => tx [c]) := by
  show some (chars (S a)) = _
  unfold chars tx
  rfl
theorem slD_tx {lo hi a w} : slD lo hi (tx a) w = some (tx ((a.drop (HT.sIx a.length 0 lo)).take (HT.sIx a.length a.length hi - HT.sIx a.length 0 lo)), .deep) := by
  show some (D.str (cutS (S a) lo hi), Ow.deep) = _
  unfold cutS tx
  rw [S_len]
theorem a2_ins {c : Nat} {z : List Nat} : app2 .In (tx [c]) (tx z) = some (.bl (decide (c ∈ z))) := rfl
theorem a2_nins {c : Nat} {z : List Nat} : app2 .NotIn (tx [c]) (tx z) = some (.bl (!decide (c ∈ z))) := rfl
/- slots of a block's own names -/
theorem wipes_nil {E : En} : wipes [] E = E := rfl
theorem wipes_cons {i is} {E : En} : wipes (i :: is) E = (wipes is E).set i none := rfl
theorem back_nil {E0 E : En} : back [] E0 E = E := rfl
theorem back_cons {i is} {E0 E : En} : back (i :: is) E0 E = (back is E0 E).set i (E0.getD i none) := rfl
def KP : Nat → En → Bool
  | _, [] => false
  | 0, none :: _ => true
  | 0, some (d, w) :: _ => plain d || decide (w = .sh)
  | i + 1, _ :: E => KP i E
theorem KP_n {E} : KP 0 (none :: E) = true := rfl
theorem KP_d {d E} : KP 0 (some (d, .deep) :: E) = plain d := by simp [KP]
theorem KP_t {d E} : KP 0 (some (d, .top) :: E) = plain d := by simp [KP]
theorem KP_h {d E} : KP 0 (some (d, .sh) :: E) = true := by simp [KP]
theorem KP_s {i a E} : KP (i + 1) (a :: E) = KP i E := by rw [KP]
theorem KP_eq : ∀ (i : Nat) (E : En), (match E[i]? with | some (some (d, w)) => plain d || decide (w = .sh) | some none => true | none => false) = KP i E
  | i, [] => by simp [KP]
  | 0, none :: _ => rfl
  | 0, some (d, w) :: _ => rfl
  | i + 1, a :: E => by rw [KP_s, ← KP_eq i E]; rfl
theorem keepNil {E} : keepable [] E = true := rfl
theorem keepCons {i is E} : keepable (i :: is) E = (KP i E && keepable is E) := by
  unfold keepable
  rw [List.all_cons]
  exact congrArg (fun b => b && _) (KP_eq i E)
theorem shv_d {d} : shv d = vl d .sh := rfl
theorem getD_z {a : Option Val} {E : En} : (a :: E).getD 0 none = a := rfl
theorem getD_s {i} {a : Option Val} {E : En} : (a :: E).getD (i + 1) none = E.getD i none := rfl
theorem plains_map {α : Type} {f : α → D} {l : List α} (h : ∀ x ∈ l, plain (f x) = true) : plains (l.map f) = true := by
  induction l with
  | nil => rw [List.map_nil, plains_nil]
  | cons a l ih => rw [List.map_cons, plains_cons, h a (.head _), ih fun x hx => h x (.tail _ hx)]; rfl
theorem plains_tx {l : List (List Nat)} : plains (l.map tx) = true := plains_map fun _ _ => plain_tx
theorem plains_ints {l : List Int} : plains (l.map D.int) = true := plains_map fun _ _ => plain_int
theorem scalars_map {α : Type} {f : α → D} {l : List α} (h : ∀ x ∈ l, scalar (f x) = true) : scalars (l.map f) = true := by
  induction l with
  | nil => rw [List.map_nil, scalars_nil]
  | cons a l ih => rw [List.map_cons, scalars_cons, h a (.head _), ih fun x hx => h x (.tail _ hx)]; rfl
theorem scalars_tx {l : List (List Nat)} : scalars (l.map tx) = true := scalars_map fun _ _ => scalar_tx
theorem scalars_ints {l : List Int} : scalars (l.map D.int) = true := scalars_map fun _ _ => rfl
theorem flat_len {α : Type} {l : List (List α)} {c : Nat} (h : ∀ x ∈ l, x.length = c) : l.flatten.length = l.length * c := by
  induction l with
  | nil => simp
  | cons a l ih =>
    rw [List.flatten_cons, List.length_append, h a (.head _), ih fun x hx => h x (.tail _ hx), List.length_cons, Nat.succ_mul, Nat.add_comm]
theorem sum_len {α : Type} {l : List (List α)} {c : Nat} (h : ∀ x ∈ l, x.length = c) : (l.map List.length).sum = l.length * c := by rw [← List.length_flatten]; exact flat_len h
theorem filt_true {α : Type} {l : List α} : l.filter (fun _ => true) = l := List.filter_eq_self.mpr fun _ _ => rfl
theorem atI_map {α β : Type} {f : α → β} {l : List α} {i : Int} : atI (l.map f) i = (atI l i).map f := by
  unfold atI
  rw [List.length_map]
  cases ixN l.length i with
  | none => rfl
  | some j => simp
theorem OP_nat {α : Type} {xs : List α} {i : Int} {K : α → Prop} (m : Nat) (e : i = m) (h : m < xs.length) (k : K xs[m]) : OP (atI xs i) K := by
  subst e
  exact OP_of (L2.atI_nat (List.getElem?_eq_getElem h)) k
theorem sIx_n {n d : Nat} : HT.sIx n d none = d := rfl
theorem sIx_s {n d : Nat} {v : Int} : HT.sIx n d (some v) = if v < 0 then (v + (n : Int)).toNat else min v.toNat n := rfl
theorem slD_l {lo hi xs w} : slD lo hi (.lst xs) w = some (newLst ((xs.drop (HT.sIx xs.length 0 lo)).take (HT.sIx xs.length xs.length hi - HT.sIx xs.length 0 lo)) w) := rfl
theorem slD_t {lo hi xs w} : slD lo hi (.tup xs) w = if HT.sIx xs.length 0 lo = 0 ∧ HT.sIx xs.length xs.length hi = xs.length then none else some (vl (.tup ((xs.drop (HT.sIx xs.length 0 lo)).take (HT.sIx xs.length xs.length hi - HT.sIx xs.length 0 lo))) w) := rfl
theorem drop_map {α β : Type} {f : α → β} {l : List α} {i : Nat} : (l.map f).drop i = (l.drop i).map f := List.map_drop.symm
theorem take_map {α β : Type} {f : α → β} {l : List α} {i : Nat} : (l.map f).take i = (l.take i).map f := List.map_take.symm
/-- kinds of which == tells sameness -/
def EQk {α : Type} (n : Nat) (f : α → D) : Prop := (∀ a, shp n (f a) = true) ∧ ∀ a b, deq (f a) (f b) = true ↔ a = b
theorem EQk.tx {n} : EQk n tx := ⟨fun _ => by cases n <;> rfl, fun a b => by rw [deq_tx, decide_eq_true_eq]⟩
theorem EQk.int {n} : EQk n D.int := ⟨fun _ => by cases n <;> rfl, fun a b => by rw [deq_int, decide_eq_true_eq]⟩
theorem EQk.bl {n} : EQk n D.bl := ⟨fun _ => by cases n <;> rfl, fun a b => by rw [deq_bl, beq_iff_eq]⟩
theorem deqs_map {α : Type} {f : α → D} (h : ∀ a b, deq (f a) (f b) = true ↔ a = b) : ∀ {l m : List α}, deqs (l.map f) (m.map f) = true ↔ l = m
  | [], [] => by simp [deqs]
  | [], _ :: _ => by simp [deqs]
  | _ :: _, [] => by simp [deqs]
  | a :: l, b :: m => by
    rw [List.map_cons, List.map_cons, deqs, Bool.and_eq_true, h, deqs_map h]
    simp
theorem shps_map {α : Type} {f : α → D} {n : Nat} (h : ∀ a, shp n (f a) = true) : ∀ {l : List α}, shps n (l.map f) = true
  | [] => by simp [shps]
  | a :: l => by rw [List.map_cons, shps, h, shps_map h]; rfl
theorem EQk.lst {α : Type} {f : α → D} {n : Nat} (h : EQk n f) : EQk (n + 1) fun l : List α => D.lst (l.map f) := ⟨fun l => by rw [shp]; exact shps_map h.1, fun a b => by rw [deq]; exact deqs_map h.2⟩
theorem EQk.t2 {α β : Type} {f : α → D} {g : β → D} {n : Nat} (h : EQk n f) (h2 : EQk n g) : EQk (n + 1) fun p : α × β => D.tup [f p.1, g p.2] := ⟨fun l => by rw [shp, shps, shps, shps, h.1, h2.1]; rfl, fun a b => by
  rw [deq, deqs, deqs, deqs, Bool.and_eq_true, Bool.and_eq_true, h.2, h2.2]
  simp [Prod.ext_iff]⟩
theorem EQk.t3 {α β γ : Type} {f : α → D} {g : β → D} {k : γ → D} {n : Nat} (h : EQk n f) (h2 : EQk n g) (h3 : EQk n k) : EQk (n + 1) fun p : α × β × γ => D.tup [f p.1, g p.2.1, k p.2.2] := ⟨fun l => by rw [shp, shps, shps, shps, shps, h.1, h2.1, h3.1]; rfl, fun a b => by
  rw [deq, deqs, deqs, deqs, deqs, Bool.and_eq_true, Bool.and_eq_true, Bool.and_eq_true, h.2, h2.2, h3.2]
  simp [Prod.ext_iff]⟩
theorem EQk.eq {α : Type} {f : α → D} [DecidableEq α] (h : EQk 30 f) {a b : α} : app2 .eq (f a) (f b) = some (.bl (decide (a = b))) := by
  rw [a2_eq, h.1, h.1]
  simp only [Bool.and_self, if_true]
  congr 2
  rw [Bool.eq_iff_iff, h.2, decide_eq_true_eq]
theorem EQk.ne {α : Type} {f : α → D} [DecidableEq α] (h : EQk 30 f) {a b : α} : app2 .ne (f a) (f b) = some (.bl (!decide (a = b))) := by
  rw [a2_ne, h.1, h.1]
  simp only [Bool.and_self, if_true]
  congr 3
  rw [Bool.eq_iff_iff, h.2, decide_eq_true_eq]
theorem a2_eqlt {a b : List (List Nat)} : app2 .eq (.lst (a.map tx)) (.lst (b.map tx)) = some (.bl (decide (a = b))) := (EQk.lst (n := 29) EQk.tx).eq
theorem a2_nelt {a b : List (List Nat)} : app2 .ne (.lst (a.map tx)) (.lst (b.map tx)) = some (.bl (!decide (a = b))) := (EQk.lst (n := 29) EQk.tx).ne
theorem a2_eqli {a b : List Int} : app2 .eq (.lst (a.map D.int)) (.lst (b.map D.int)) = some (.bl (decide (a = b))) := (EQk.lst (n := 29) EQk.int).eq
theorem a2_neli {a b : List Int} : app2 .ne (.lst (a.map D.int)) (.lst (b.map D.int)) = some (.bl (!decide (a = b))) := (EQk.lst (n := 29) EQk.int).ne
theorem a2_eql0 {a : List D} : app2 .eq (.lst a) (.lst []) = if shps 29 a = true then some (.bl a.isEmpty) else none := by
  rw [a2_eq]
  have e1 : shp 30 (.lst a) = shps 29 a := by rw [shp]
  have e2 : shp 30 (.lst []) = true := by simp [shp, shps]
  have e3 : deq (.lst a) (.lst []) = a.isEmpty := by cases a <;> simp [deq, deqs]
  rw [e1, e2, e3, Bool.and_true]
theorem a2_nel0 {a : List D} : app2 .ne (.lst a) (.lst []) = if shps 29 a = true then some (.bl (!a.isEmpty)) else none := by
  rw [a2_ne]
  have e1 : shp 30 (.lst a) = shps 29 a := by rw [shp]
  have e2 : shp 30 (.lst []) = true := by simp [shp, shps]
  have e3 : deq (.lst a) (.lst []) = a.isEmpty := by cases a <;> simp [deq, deqs]
  rw [e1, e2, e3, Bool.and_true]
theorem shps_tx {n} {l : List (List Nat)} : shps n (l.map tx) = true := shps_map EQk.tx.1
theorem shps_ints {n} {l : List Int} : shps n (l.map D.int) = true := shps_map EQk.int.1
theorem isEmpty_map {α β : Type} {f : α → β} {l : List α} : (l.map f).isEmpty = l.isEmpty := by cases l <;> rfl
/-- a whole number from nought on -/
def dn (m : Nat) : D := .int (m : Int)
theorem dn_int {m : Nat} : dn m = .int (m : Int) := rfl
theorem plains_dn {l : List Nat} : plains (l.map dn) = true := plains_map fun _ _ => plain_int
theorem scalars_dn {l : List Nat} : scalars (l.map dn) = true := scalars_map fun _ _ => rfl
theorem EQk.dn {n} : EQk n dn := ⟨fun _ => by cases n <;> rfl, fun a b => by unfold BS.dn; rw [deq_int, decide_eq_true_eq]; omega⟩
theorem shps_dn {n} {l : List Nat} : shps n (l.map dn) = true := shps_map EQk.dn.1
theorem a2_eqld {a b : List Nat} : app2 .eq (.lst (a.map dn)) (.lst (b.map dn)) = some (.bl (decide (a = b))) := (EQk.lst (n := 29) EQk.dn).eq
theorem a2_neld {a b : List Nat} : app2 .ne (.lst (a.map dn)) (.lst (b.map dn)) = some (.bl (!decide (a = b))) := (EQk.lst (n := 29) EQk.dn).ne
theorem a1_intt {l : List Nat} : app1 .int (tx l) = if l.length ≤ 640 then (PySem.intText? (S l)).map .int else none := by
  show (if (S l).length ≤ 640 then (PySem.intText? (S l)).map D.int else none) = _
  rw [S_len]
theorem intT0 : PySem.intText? (S [48]) = some 0 := by decide +kernel
theorem intT1 : PySem.intText? (S [49]) = some 1 := by decide +kernel
theorem sumD_map {l : List Int} : sumD (l.map D.int) = some l.sum := by
  induction l with
  | nil => rfl
  | cons a l ih => rw [List.map_cons, sumD, ih, List.sum_cons]; rfl
theorem sumD_dn {l : List Nat} : sumD (l.map dn) = some (l.sum : Nat) := by
  induction l with
  | nil => rfl
  | cons a l ih => rw [List.map_cons, List.sum_cons]; unfold dn; rw [sumD]; rw [show sumD (List.map (fun m : Nat => D.int (m : Int)) l) = _ from ih]; simp
theorem intsOf_map {l : List Int} : intsOf (l.map D.int) = some l := by
  induction l with
  | nil => rfl
  | cons a l ih => rw [List.map_cons, intsOf, ih]; rfl
theorem a1_sum {l : List Int} : app1 .sum (.lst (l.map D.int)) = some (.int l.sum) := by
  show (sumD (l.map D.int)).map D.int = _
  rw [sumD_map]; rfl
theorem a1_sumd {l : List Nat} : app1 .sum (.lst (l.map dn)) = some (.int (l.sum : Nat)) := by
  show (sumD (l.map dn)).map D.int = _
  rw [sumD_dn]; rfl
theorem a2_count {l : List Int} {i : Int} : app2 .count (.lst (l.map D.int)) (.int i) = some (.int (l.count i : Nat)) := by
  show (intsOf (l.map D.int)).map _ = _
  rw [intsOf_map]; rfl
theorem plainsApp : ∀ {a b : List D}, plains (a ++ b) = (plains a && plains b)
  | [], b => by rw [List.nil_append, plains_nil, Bool.true_and]
  | x :: a, b => by rw [List.cons_append, plains_cons, plains_cons, plainsApp, Bool.and_assoc]
theorem app_map {α β : Type} {f : α → β} {a b : List α} : a.map f ++ b.map f = (a ++ b).map f := List.map_append.symm
theorem OP_ixn {n : Nat} {i : Int} {K : Nat → Prop} (m : Nat) (e : i = m) (h : m < n) (k : K m) : OP (ixN n i) K := by
  subst e
  exact OP_of (ixN_of (by omega) (by omega)) k
theorem set_dn {l : List Nat} {k x : Nat} : (l.map dn).set k (.int (x : Int)) = (l.set k x).map dn := (List.map_set (f := dn)).symm
theorem set_tx {l : List (List Nat)} {k : Nat} {x : List Nat} : (l.map tx).set k (tx x) = (l.set k x).map tx := (List.map_set (f := tx)).symm
theorem set_int {l : List Int} {k : Nat} {x : Int} : (l.map D.int).set k (.int x) = (l.set k x).map D.int := (List.map_set (f := D.int)).symm
theorem cast_lit {n : Nat} : ((no_index (OfNat.ofNat n) : Nat) : Int) = OfNat.ofNat n := rfl
theorem a2_eqb {a b : Bool} : app2 .eq (.bl a) (.bl b) = some (.bl (decide (a = b))) := EQk.bl.eq
theorem a2_neb {a b : Bool} : app2 .ne (.bl a) (.bl b) = some (.bl (!decide (a = b))) := EQk.bl.ne
theorem line_def : line = 16777216 := rfl
theorem OP_mem {α : Type} {xs : List α} {i : Int} {K : α → Prop} (h0 : 0 ≤ i) (h1 : i < xs.length) (k : ∀ x ∈ xs, K x) : OP (atI xs i) K := OP_of (atI_of h0 h1) (k _ (List.getElem_mem _))
end BS

set_option Elab.async false
set_option linter.all false
set_option maxRecDepth 100000
set_option maxHeartbeats 2000000
/-! Dicts, defs as values. -/
namespace BS
open PySem L2
section
variable {Φ : Phi}
theorem W_dct {es E P} : W.EV Φ (.dct es) E P ↔ W.EVs Φ es E fun xs E1 => OP (pairUp (ds xs)) fun kvs => keysOk kvs = true ∧ P (.dic false kvs, if allDeep xs = true then .deep else .top) E1 := by
  show EV Φ (.dct es) E P ↔ EVs Φ es E _
  unfold EV EVs OP
  simp only [ev, Option.bind_eq_bind, Option.bind_eq_some_iff, Prod.exists]
  constructor
  · rintro ⟨d, w, E', ⟨xs, E1, h1, kvs, h2, h3⟩, p⟩
    split at h3
    · rename_i hc
      simp only [Option.some.injEq, Prod.mk.injEq] at h3
      obtain ⟨⟨rfl, rfl⟩, rfl⟩ := h3
      exact ⟨xs, E1, h1, kvs, h2, hc, p⟩
    · cases h3
  · rintro ⟨xs, E1, h1, kvs, h2, hc, p⟩
    exact ⟨_, _, _, ⟨xs, E1, h1, kvs, h2, if_pos hc⟩, p⟩
def fnOf : D → Option Nat
  | .fn g => some g
  | _ => none
theorem fnOf_fn {g} : fnOf (.fn g) = some g := rfl
theorem W_callv {f es E P} : W.EV Φ (.callv f es) E P ↔ W.EV Φ f E fun x E1 => OP (fnOf x.1) fun g => W.EVa Φ es E1 fun as E2 => W.GA as E2 fun vs E3 => W.CL Φ g vs fun r os => PUT (scat as os E3) fun E4 => P r E4 := by
  show EV Φ (.callv f es) E P ↔ EV Φ f E _
  have key : ∀ g E1, (∃ as E2, eva Φ es E1 = some (as, E2) ∧ GA as E2 fun vs E3 => CL Φ g vs fun r os => P r (scat as os E3)) ↔ EV Φ (.call g es) E1 P := fun g E1 => EV_call.symm
  unfold EV at *
  simp only [ev, Option.bind_eq_bind, Option.bind_eq_some_iff, Prod.exists] at key ⊢
  constructor
  · rintro ⟨d, w, E', ⟨xd, xw, E1, h1, h2⟩, p⟩
    cases xd with
    | fn g =>
      refine ⟨.fn g, xw, E1, h1, g, rfl, ?_⟩
      exact (key g E1).mpr ⟨d, w, E', by simpa only [Option.bind_eq_bind, Option.bind_eq_some_iff, Prod.exists] using h2, p⟩
    | _ => cases h2
  · rintro ⟨xd, xw, E1, h1, g, hg, h2⟩
    cases xd with
    | fn g' =>
      cases hg
      obtain ⟨d, w, E', h3, p⟩ := (key g E1).mp h2
      exact ⟨d, w, E', ⟨_, _, _, h1, by simpa only [Option.bind_eq_bind, Option.bind_eq_some_iff, Prod.exists] using h3⟩, p⟩
    | _ => cases hg
end
theorem W_rep {Φ : Phi} {a b E P} : W.EV Φ (.rep a b) E P ↔ W.EV Φ a E fun x E1 => W.EV Φ b E1 fun y E2 => OP (match x.1, y.1 with | .lst xs, .int k => if plains xs = true ∧ -(2 ^ 63) ≤ k ∧ k < 2 ^ 63 ∧ xs.length * k.toNat ≤ line then some (D.lst (List.replicate k.toNat xs).flatten) else none | _, _ => none) fun d => P (d, .deep) E2 := by
  show EV Φ (.rep a b) E P ↔ EV Φ a E fun x E1 => EV Φ b E1 _
  unfold EV OP
  simp only [ev, Option.bind_eq_bind, Option.bind_eq_some_iff, Prod.exists]
  constructor
  · rintro ⟨d, w, E', ⟨xd, xw, E1, h1, yd, yw, E2, h2, h3⟩, p⟩
    refine ⟨xd, xw, E1, h1, yd, yw, E2, h2, ?_⟩
    cases xd with
    | lst xs =>
      cases yd with
      | int k =>
        simp only at h3
        split at h3
        · rename_i hc
          simp only [Option.some.injEq, Prod.mk.injEq] at h3
          obtain ⟨⟨rfl, rfl⟩, rfl⟩ := h3
          exact ⟨_, if_pos hc, p⟩
        · cases h3
      | _ => cases h3
    | _ => cases h3
  · rintro ⟨xd, xw, E1, h1, yd, yw, E2, h2, d, h3, p⟩
    cases xd with
    | lst xs =>
      cases yd with
      | int k =>
        simp only at h3
        split at h3
        · rename_i hc
          simp only [Option.some.injEq] at h3
          subst h3
          exact ⟨_, _, _, ⟨_, _, _, h1, _, _, _, h2, if_pos hc⟩, p⟩
        · cases h3
      | _ => cases h3
    | _ => cases h3
theorem pairUp_nil : pairUp [] = some [] := rfl
theorem pairUp_cons {k v r} : pairUp (k :: v :: r) = (pairUp r).map ((k, v) :: ·) := rfl
def kdist : List (D × D) → Bool
  | [] => true
  | (k, _) :: r => keyOk false k && (!dhas r k && kdist r)
theorem keqSymm : ∀ {a b : D} {k : Key}, keyD a = some k → keq a b = keq b a := by
  intro a b k h
  cases a <;> simp only [keyD, reduceCtorEq] at h
  · cases b <;> simp [keq]
    exact eq_comm
  · cases b <;> simp [keq]
    exact eq_comm
theorem keqKey {a b : D} {k l : Key} (h : keyD a = some k) (h' : keyD b = some l) : keq a b = decide (k = l) := by
  cases a <;> simp only [keyD, Option.some.injEq, reduceCtorEq] at h <;> cases b <;> simp only [keyD, Option.some.injEq, reduceCtorEq] at h' <;> subst h <;> subst h' <;> simp [keq]
theorem keysOk_eq {kvs : List (D × D)} : keysOk kvs = (kdist kvs && decide (kvs.length ≤ 15)) := by
  have key : ∀ kvs : List (D × D), (match keyL (kvs.map (·.1)) with | some ks => decide ks.Nodup | none => false) = kdist kvs ∧ ∀ (k : D) (l : Key) ks, keyD k = some l → keyL (kvs.map (·.1)) = some ks → (dhas kvs k = true ↔ l ∈ ks) := by
    intro kvs
    induction kvs with
    | nil => refine ⟨rfl, fun k l ks h1 h2 => ?_⟩; simp only [List.map_nil, keyL, Option.some.injEq] at h2; subst h2; simp [dhas]
    | cons a r ih =>
      obtain ⟨k, v⟩ := a
      obtain ⟨ih1, ih2⟩ := ih
      simp only [List.map_cons, keyL]
      cases e1 : keyD k with
      | none =>
        refine ⟨by simp [kdist, keyOk, e1], fun _ _ _ _ h => by simp at h⟩
      | some l =>
        cases e2 : keyL (r.map (·.1)) with
        | none =>
          rw [e2] at ih1
          refine ⟨by simp [kdist, ← ih1], fun _ _ _ _ h => by simp at h⟩
        | some ks =>
          rw [e2] at ih1
          have e3 := ih2 k l ks e1 e2
          refine ⟨?_, fun k' l' ks' h1 h2 => ?_⟩
          · show decide (l :: ks).Nodup = (keyOk false k && (!dhas r k && kdist r))
            have e5 : keyOk false k = true := by simp [keyOk, e1]
            rw [e5, ← ih1, Bool.true_and]
            cases e4 : dhas r k with
            | true =>
              have := e3.mp e4
              simp [List.nodup_cons, this]
            | false =>
              have : ¬ l ∈ ks := fun z => by rw [e3.mpr z] at e4; cases e4
              simp [List.nodup_cons, this]
          · simp only [Option.some.injEq] at h2
            subst h2
            have e4 := ih2 k' l' ks h1 e2
            have e5 : dhas ((k, v) :: r) k' = (keq k k' || dhas r k') := rfl
            rw [e5, Bool.or_eq_true, e4, keqKey e1 h1, decide_eq_true_eq, List.mem_cons]
            exact ⟨fun z => z.imp (fun e => e.symm) id, fun z => z.imp (fun e => e.symm) id⟩
  have k1 := (key kvs).1
  unfold keysOk
  cases e : keyL (kvs.map (·.1)) with
  | none => rw [e] at k1; simp [← k1]
  | some ks => rw [e] at k1; simp [← k1]
theorem kdist_nil : kdist [] = true := rfl
theorem kdist_cons {k v r} : kdist ((k, v) :: r) = (keyOk false k && (!dhas r k && kdist r)) := rfl
theorem dhas_nil {k} : dhas [] k = false := rfl
theorem dhas_cons {a v r k} : dhas ((a, v) :: r) k = (keq a k || dhas r k) := rfl
theorem keq_int {i j} : keq (.int i) (.int j) = decide (i = j) := by rw [keq]
theorem keq_tx {a b} : keq (tx a) (tx b) = decide (a = b) := by
  unfold tx
  rw [keq]
  by_cases h : a = b
  · rw [decide_eq_true h, decide_eq_true (by rw [h])]
  · rw [decide_eq_false h, decide_eq_false fun e => h (SX.S_inj e)]
theorem keyOk_int {i} : keyOk false (.int i) = true := rfl
theorem keyOk_tx {a} : keyOk false (tx a) = true := rfl
theorem dget_nil {k} : dget [] k = none := rfl
theorem dget_cons {a v r k} : dget ((a, v) :: r) k = if keq a k = true then some v else dget r k := rfl
theorem dput_eq {kvs k v} : dput kvs k v = if dhas kvs k = true then kvs.map (fun p => if keq p.1 k then (p.1, v) else p) else kvs ++ [(k, v)] := rfl
theorem vals_nil : vals [] = [] := rfl
theorem vals_cons {k v r} : vals ((k, v) :: r) = v :: vals r := rfl
def revD : Val → Option Val
  | (.lst xs, w) => if plains xs = true ∨ w ≠ .deep then some (newLst xs.reverse w) else none
  | _ => none
theorem W_opr {Φ : Phi} {a E P} : W.EV Φ (.opP .rev a) E P ↔ W.EV Φ a E fun x E1 => KESC a x E1 fun x E2 => OP (revD x) fun r => P r E2 := by
  show EV Φ (.opP .rev a) E P ↔ EV Φ a E _
  unfold EV KESC OP
  simp only [ev, Option.bind_eq_bind, Option.bind_eq_some_iff, Prod.exists]
  constructor
  · rintro ⟨d, w, E', ⟨x, w', E1, h1, h2⟩, p⟩
    refine ⟨x, w', E1, h1, ?_⟩
    generalize kesc a (x, w') E1 = k at *
    obtain ⟨⟨kd, kw⟩, E2⟩ := k
    cases kd with
    | lst xs =>
      simp only at h2
      split at h2
      · rename_i hc
        cases h2
        exact ⟨_, _, if_pos hc, p⟩
      · cases h2
    | _ => cases h2
  · rintro ⟨x, w', E1, h1, r, rw', h2, p⟩
    refine ⟨r, rw', (kesc a (x, w') E1).2, ⟨x, w', E1, h1, ?_⟩, p⟩
    generalize kesc a (x, w') E1 = k at *
    obtain ⟨⟨kd, kw⟩, E2⟩ := k
    cases kd with
    | lst xs =>
      simp only [revD] at h2
      split at h2
      · rename_i hc
        simp only [if_pos hc]
        cases h2
        rfl
      · cases h2
    | _ => cases h2
theorem rev_l {xs w} : revD (.lst xs, w) = if plains xs = true ∨ w ≠ .deep then some (newLst xs.reverse w) else none := rfl
theorem rev_map {α β : Type} {f : α → β} {l : List α} : (l.map f).reverse = l.reverse.map f := List.map_reverse.symm
theorem it_keystx {a} : items .keys [tx a] = some (a.map fun c => tx [c]) := it_tx
theorem zip0_map {α β : Type} {f : α → D} {g : β → D} : ∀ {l : List α} {m : List β}, zip0 (l.map f) (m.map g) = (l.zip m).map fun p => .tup [f p.1, g p.2]
  | [], _ => by simp [zip0]
  | _ :: _, [] => by simp [zip0]
  | a :: l, b :: m => by simp only [List.map_cons, zip0, List.zip_cons_cons]; rw [zip0_map]
theorem enum0_map {α : Type} {f : α → D} {l : List α} {n : Nat} : enum0 n (l.map f) = (l.zipIdx n).map fun p => .tup [.int (p.2 : Nat), f p.1] := by
  induction l generalizing n with
  | nil => rfl
  | cons a l ih => simp only [List.map_cons, enum0, List.zipIdx_cons]; rw [ih]
theorem intKeys_nil : intKeys [] = true := rfl
theorem intKeys_cons {i v r} : intKeys ((.int i, v) :: r) = intKeys r := rfl
end BS

set_option Elab.async false
set_option linter.all false
set_option maxRecDepth 100000
set_option maxHeartbeats 0
namespace BS
open PySem L2
/-! the text in the evaluator's syntax -/
abbrev g_law_cell_at : Nat := 0
abbrev g_law_pool : Nat := 1
abbrev g_law_take : Nat := 2
abbrev g_law_mark_k39 : Nat := 3
abbrev g_law_odd_mark : Nat := 4
abbrev g_law_end : Nat := 5
abbrev g_law_pair_view : Nat := 6
abbrev g_is_two : Nat := 7
abbrev g_says_pairing : Nat := 8
abbrev g_number_in : Nat := 9
abbrev g_is_mark : Nat := 10
abbrev g_fields_of : Nat := 11
abbrev g_fields_beside : Nat := 12
abbrev g_falls_to_one : Nat := 13
abbrev g_entry_of : Nat := 14
abbrev g_leads : Nat := 15
abbrev g_is_entry_right : Nat := 16
abbrev g_is_form : Nat := 17
abbrev g_is_dear : Nat := 18
abbrev g_says_cheapest : Nat := 19
abbrev g_says_round : Nat := 20
abbrev g_threes_of : Nat := 21
abbrev g_below : Nat := 22
abbrev g_leaders_among : Nat := 23
abbrev g_goes_up : Nat := 24
abbrev g_are_threes_right : Nat := 25
abbrev g_says_ball : Nat := 26
abbrev g_pair_of : Nat := 27
abbrev g_pairs_of : Nat := 28
abbrev g_says_tree_by : Nat := 29
abbrev g_says_tree : Nat := 30
abbrev g_says_near_k39 : Nat := 31
abbrev g_says_bare : Nat := 32
abbrev g_says_sides : Nat := 33
abbrev g_says_odd : Nat := 34
abbrev g_parted : Nat := 35
abbrev g_two_marks : Nat := 36
abbrev g_part_seen : Nat := 37
abbrev g_says_both_k39 : Nat := 38
abbrev g_chosen_mark : Nat := 39
abbrev g_says_either_k39 : Nat := 40
abbrev g_says_many : Nat := 41
abbrev g_says_k39 : Nat := 42
abbrev g_law_said : Nat := 43
abbrev g_law_read_k39 : Nat := 44
abbrev g_law_pairs_k39 : Nat := 45
abbrev g_law_due_k40 : Nat := 46
abbrev g_law_k40 : Nat := 47
theorem st_ : D.str "" = tx [] := congrArg D.str (by decide +kernel)
theorem st_30 : D.str "0" = tx [48] := congrArg D.str (by decide +kernel)
theorem st_3030 : D.str "00" = tx [48, 48] := congrArg D.str (by decide +kernel)
theorem st_31 : D.str "1" = tx [49] := congrArg D.str (by decide +kernel)
theorem st_3031 : D.str "01" = tx [48, 49] := congrArg D.str (by decide +kernel)
theorem st_626f7468 : D.str "both" = tx [98, 111, 116, 104] := congrArg D.str (by decide +kernel)
theorem st_656974686572 : D.str "either" = tx [101, 105, 116, 104, 101, 114] := congrArg D.str (by decide +kernel)
theorem st_6d616e79 : D.str "many" = tx [109, 97, 110, 121] := congrArg D.str (by decide +kernel)
theorem st_74726565 : D.str "tree" = tx [116, 114, 101, 101] := congrArg D.str (by decide +kernel)
theorem st_6e656172 : D.str "near" = tx [110, 101, 97, 114] := congrArg D.str (by decide +kernel)
theorem st_62617265 : D.str "bare" = tx [98, 97, 114, 101] := congrArg D.str (by decide +kernel)
theorem st_7369646573 : D.str "sides" = tx [115, 105, 100, 101, 115] := congrArg D.str (by decide +kernel)
theorem st_6f6464 : D.str "odd" = tx [111, 100, 100] := congrArg D.str (by decide +kernel)
theorem st_70616972696e67 : D.str "pairing" = tx [112, 97, 105, 114, 105, 110, 103] := congrArg D.str (by decide +kernel)
theorem st_6368656170657374 : D.str "cheapest" = tx [99, 104, 101, 97, 112, 101, 115, 116] := congrArg D.str (by decide +kernel)
theorem st_726f756e64 : D.str "round" = tx [114, 111, 117, 110, 100] := congrArg D.str (by decide +kernel)
theorem st_62616c6c : D.str "ball" = tx [98, 97, 108, 108] := congrArg D.str (by decide +kernel)
def s_law_cell_at : Ss := .seq (.ite (.op2 .lt (.var 1) (.op1 .len (.var 0))) (.ret (.ix (.var 0) (.var 1))) (.skip)) (.ret (.int 0))
def d_law_cell_at : Def := ⟨2, 2, s_law_cell_at⟩
def s_law_pool : Ss := .seq (.set (.v 2) (.call g_law_cell_at [.var 0, .var 1])) (.seq (.set (.v 3) (.op2 .mod (.op2 .mul (.op2 .add (.op2 .add (.op2 .mod (.var 2) (.int 2147483629)) (.op2 .mul (.op2 .mul (.int 7919) (.var 1)) (.var 1))) (.int 1)) (.int 48271)) (.int 2147483647))) (.seq (.ite (.op2 .lt (.var 2) (.op2 .pow (.int 10) (.int 18))) (.set (.v 2) (.int 0)) (.skip)) (.ret (.lst [.var 2, .op2 .mod (.op2 .mul (.var 3) (.var 3)) (.int 2147483629)]))))
def d_law_pool : Def := ⟨2, 4, s_law_pool⟩
def s_law_take : Ss := .seq (.ite (.op2 .gt (.ix (.var 0) (.int 0)) (.int 0)) (.seq (.set (.v 2) (.op2 .mod (.ix (.var 0) (.int 0)) (.var 1))) (.seq (.setIx 0 (.int 0) (.op2 .fdiv (.ix (.var 0) (.int 0)) (.var 1))) (.ret (.var 2)))) (.skip)) (.seq (.setIx 0 (.int 1) (.op2 .mod (.op2 .add (.op2 .mul (.ix (.var 0) (.int 1)) (.int 48271)) (.int 11)) (.int 2147483647))) (.ret (.op2 .mod (.op2 .fdiv (.op2 .mod (.op2 .mul (.ix (.var 0) (.int 1)) (.ix (.var 0) (.int 1))) (.int 2147483629)) (.int 64)) (.var 1))))
def d_law_take : Def := ⟨2, 3, s_law_take⟩
def s_law_mark_k39 : Ss := .seq (.set (.v 1) (.str "")) (.seq (.for_ (.v 2) .keys [.var 0] (.for_ (.v 3) .of [.lst [.int 2048, .int 1024, .int 512, .int 256, .int 128, .int 64, .int 32, .int 16, .int 8, .int 4, .int 2, .int 1]] (.set (.v 1) (.op2 .add (.var 1) (.op1 .str (.op2 .mod (.op2 .fdiv (.var 2) (.var 3)) (.int 2))))))) (.ret (.var 1)))
def d_law_mark_k39 : Def := ⟨1, 4, s_law_mark_k39⟩
def s_law_odd_mark : Ss := .seq (.set (.v 3) (.call g_law_mark_k39 [.lst [.var 1, .var 2]])) (.seq (.set (.v 4) (.lst [.non, .str "", .sl (.var 3) (.non) (.op1 .neg (.int 1)), .op2 .add (.var 3) (.str "0"), .op2 .add (.var 3) (.var 3), .str "0", .sl (.var 3) (.non) (.int 12), .op2 .add (.var 3) (.call g_law_mark_k39 [.lst [.int 1]])])) (.ret (.ix (.var 4) (.call g_law_take [.io 0, .int 8]))))
def d_law_odd_mark : Def := ⟨3, 5, s_law_odd_mark⟩
def s_law_end : Ss := .seq (.set (.v 4) (.var 1)) (.seq (.ite (.op2 .eq (.call g_law_take [.io 0, .int 12]) (.int 11)) (.set (.v 4) (.op2 .mod (.op2 .add (.op2 .add (.var 1) (.int 1)) (.call g_law_take [.io 0, .int 4095])) (.int 4096))) (.skip)) (.seq (.set (.v 5) (.call g_law_take [.io 0, .int 8])) (.seq (.set (.v 6) (.lst [.op2 .sub (.var 2) (.int 1), .op2 .add (.var 2) (.int 1), .op2 .add (.var 2) (.int 1), .op2 .sub (.var 2) (.var 3), .op2 .add (.var 2) (.var 3), .op2 .add (.var 2) (.var 3), .var 2, .call g_law_take [.io 0, .int 4096]])) (.seq (.set (.v 7) (.op2 .max (.int 0) (.op2 .min (.int 4095) (.ix (.var 6) (.var 5))))) (.seq (.ite (.op2 .eq (.call g_law_take [.io 0, .int 24]) (.int 23)) (.ret (.call g_law_odd_mark [.io 0, .var 4, .var 7])) (.skip)) (.ret (.call g_law_mark_k39 [.lst [.var 4, .var 7]])))))))
def d_law_end : Def := ⟨4, 8, s_law_end⟩
def s_law_pair_view : Ss := .seq (.set (.v 1) (.ix (.lst [.call g_law_take [.io 0, .int 4096], .call g_law_take [.io 0, .int 3]]) (.call g_law_take [.io 0, .int 2]))) (.seq (.set (.v 2) (.ix (.lst [.var 1, .op2 .mod (.op2 .add (.op2 .add (.var 1) (.int 1)) (.call g_law_take [.io 0, .int 4095])) (.int 4096)]) (.op2 .fdiv (.call g_law_take [.io 0, .int 3]) (.int 2)))) (.seq (.set (.v 3) (.ix (.lst [.int 0, .call g_law_take [.io 0, .int 5], .call g_law_take [.io 0, .int 4096]]) (.call g_law_take [.io 0, .int 3]))) (.seq (.ite (.and (.op2 .ne (.var 2) (.var 1)) (.op2 .gt (.call g_law_take [.io 0, .int 8]) (.int 0))) (.set (.v 3) (.op2 .max (.int 1) (.var 3))) (.skip)) (.seq (.ite (.and (.op2 .eq (.var 2) (.var 1)) (.op2 .gt (.call g_law_take [.io 0, .int 8]) (.int 0))) (.set (.v 3) (.int 0)) (.skip)) (.seq (.set (.v 4) (.lst [])) (.seq (.set (.v 5) (.call g_law_take [.io 0, .int 2])) (.seq (.set (.v 6) (.call g_law_take [.io 0, .int 2])) (.seq (.set (.v 7) (.call g_law_take [.io 0, .ix (.lst [.int 7, .int 13, .int 31]) (.call g_law_take [.io 0, .int 3])])) (.seq (.set (.v 8) (.call g_law_take [.io 0, .op2 .max (.int 1) (.var 7)])) (.seq (.set (.v 9) (.call g_law_take [.io 0, .op2 .mul (.int 2) (.op2 .max (.int 1) (.var 7))])) (.seq (.for_ (.v 10) .rng [.var 7] (.seq (.set (.v 13) (.op2 .add (.int 1) (.call g_law_take [.io 0, .ix (.lst [.int 1, .int 3, .int 60]) (.call g_law_take [.io 0, .int 3])]))) (.seq (.set (.v 14) (.op2 .eq (.call g_law_take [.io 0, .int 2]) (.int 1))) (.seq (.set (.v 15) (.ix (.lst [.var 13, .int 1]) (.var 5))) (.seq (.set (.v 11) (.call g_law_end [.io 0, .var 2, .var 3, .var 15])) (.seq (.ite (.and (.op2 .eq (.var 6) (.int 1)) (.op2 .ne (.var 10) (.var 9))) (.set (.v 11) (.call g_law_mark_k39 [.lst [.var 2, .ix (.lst [.op2 .min (.int 4095) (.op2 .add (.var 3) (.var 15)), .op2 .max (.int 0) (.op2 .sub (.var 3) (.var 15))]) (.op1 .int (.and (.op2 .eq (.var 10) (.var 8)) (.op2 .gt (.var 3) (.int 0))))]])) (.skip)) (.expr (.mut .append 4 [.tup [.var 13, .or (.var 14) (.and (.op2 .eq (.var 6) (.int 1)) (.op2 .eq (.var 10) (.var 8))), .var 11]])))))))) (.seq (.set (.v 11) (.call g_law_mark_k39 [.lst [.var 2, .var 3]])) (.seq (.ite (.op2 .eq (.call g_law_take [.io 0, .int 24]) (.int 23)) (.set (.v 11) (.call g_law_odd_mark [.io 0, .var 2, .var 3])) (.skip)) (.seq (.set (.v 12) (.ix (.lst [.op1 .int (.op2 .eq (.var 3) (.int 0)), .call g_law_take [.io 0, .int 10]]) (.op2 .fdiv (.call g_law_take [.io 0, .int 4]) (.int 3)))) (.ret (.tup [.var 1, .var 12, .var 11, .var 4]))))))))))))))))
def d_law_pair_view : Def := ⟨1, 16, s_law_pair_view⟩
def s_is_two : Ss := .ret (.and (.op1 .isNN (.var 0)) (.op2 .eq (.op1 .len (.var 0)) (.int 2)))
def d_is_two : Def := ⟨1, 1, s_is_two⟩
def s_says_pairing : Ss := .seq (.set (.v 1) (.ix (.var 0) (.int 2))) (.seq (.ite (.op1 .not (.call g_is_two [.var 1])) (.ret (.bl false)) (.skip)) (.seq (.set (.v 2) (.int 0)) (.seq (.for_ (.t [3, 4, 5]) .of [.ix (.var 0) (.int 3)] (.seq (.ite (.or (.op1 .not (.call g_is_two [.var 5])) (.or (.op2 .eq (.ix (.var 5) (.int 0)) (.ix (.var 1) (.int 0))) (.op2 .eq (.op2 .add (.ix (.var 1) (.int 1)) (.ix (.var 5) (.int 1))) (.str "00")))) (.ret (.bl false)) (.skip)) (.seq (.ite (.and (.var 4) (.op2 .eq (.ix (.var 1) (.int 1)) (.ix (.var 5) (.int 1)))) (.ret (.bl false)) (.skip)) (.set (.v 2) (.op2 .add (.var 2) (.op1 .int (.var 4))))))) (.ret (.or (.op2 .eq (.var 2) (.int 1)) (.and (.op2 .eq (.var 2) (.int 0)) (.op2 .eq (.ix (.var 1) (.int 1)) (.str "0"))))))))
def d_says_pairing : Def := ⟨1, 6, s_says_pairing⟩
def s_number_in : Ss := .seq (.set (.v 1) (.int 0)) (.seq (.for_ (.v 2) .keys [.var 0] (.set (.v 1) (.op2 .add (.op2 .mul (.int 2) (.var 1)) (.op1 .int (.op2 .eq (.var 2) (.str "1")))))) (.ret (.var 1)))
def d_number_in : Def := ⟨1, 3, s_number_in⟩
def s_is_mark : Ss := .seq (.ite (.or (.op1 .not (.op1 (.isi .str) (.var 0))) (.op2 .gt (.op1 .len (.var 0)) (.int 9000))) (.ret (.bl false)) (.skip)) (.seq (.for_ (.v 1) .keys [.var 0] (.ite (.op2 .NotIn (.var 1) (.str "01")) (.ret (.bl false)) (.skip))) (.ret (.bl true)))
def d_is_mark : Def := ⟨1, 2, s_is_mark⟩
def s_fields_of : Ss := .seq (.ite (.or (.op1 .not (.call g_is_mark [.var 0])) (.op2 .ne (.op2 .mod (.op1 .len (.var 0)) (.int 12)) (.int 0))) (.ret (.non)) (.skip)) (.ret (.comp false (.call g_number_in [.sl (.var 0) (.var 1) (.op2 .add (.var 1) (.int 12))]) (.v 1) .rng [.int 0, .op1 .len (.var 0), .int 12] (.bl true)))
def d_fields_of : Def := ⟨1, 2, s_fields_of⟩
def s_fields_beside : Ss := .seq (.set (.v 2) (.call g_fields_of [.ix (.var 0) (.int 2)])) (.seq (.ite (.or (.op1 .isN (.var 2)) (.op2 .lt (.op1 .len (.var 2)) (.var 1))) (.ret (.non)) (.skip)) (.seq (.set (.v 3) (.lst [])) (.seq (.for_ (.t [4, 5, 6]) .of [.ix (.var 0) (.int 3)] (.seq (.set (.v 7) (.call g_fields_of [.var 6])) (.seq (.ite (.or (.op1 .isN (.var 7)) (.op2 .lt (.op1 .len (.var 7)) (.var 1))) (.ret (.non)) (.skip)) (.expr (.mut .append 3 [.var 7]))))) (.ret (.tup [.var 2, .var 3])))))
def d_fields_beside : Def := ⟨2, 8, s_fields_beside⟩
def s_falls_to_one : Ss := .seq (.for_ (.v 2) .keys [.var 1] (.ite (.op2 .ne (.op1 .abs (.op2 .sub (.var 2) (.var 0))) (.int 1)) (.ret (.bl false)) (.skip))) (.ret (.or (.op2 .eq (.var 0) (.int 0)) (.op2 .eq (.op1 .len (.comp false (.var 2) (.v 2) .keys [.var 1] (.op2 .lt (.var 2) (.var 0)))) (.int 1))))
def d_falls_to_one : Def := ⟨2, 3, s_falls_to_one⟩
def s_entry_of : Ss := .seq (.ite (.op2 .lt (.op1 .len (.var 0)) (.op2 .add (.int 5) (.op2 .mul (.int 3) (.var 1)))) (.ret (.non)) (.skip)) (.ret (.io 0))
def d_entry_of : Def := ⟨2, 2, s_entry_of⟩
def s_leads : Ss := .seq (.set (.v 4) (.call g_entry_of [.var 3, .var 0])) (.seq (.ite (.or (.op1 .isN (.var 4)) (.or (.op2 .ne (.ix (.var 4) (.int 0)) (.ix (.var 1) (.int 0))) (.op2 .ne (.ix (.var 4) (.int 1)) (.op2 .sub (.ix (.var 1) (.int 1)) (.int 1))))) (.ret (.bl false)) (.skip)) (.ret (.and (.op2 .le (.var 2) (.ix (.var 1) (.int 2))) (.op2 .le (.ix (.var 4) (.int 2)) (.ix (.var 1) (.int 2))))))
def d_leads : Def := ⟨4, 5, s_leads⟩
def s_is_entry_right : Ss := .seq (.ite (.op2 .eq (.ix (.var 2) (.int 1)) (.int 0)) (.ret (.and (.op2 .eq (.ix (.var 2) (.int 0)) (.var 0)) (.op2 .eq (.ix (.var 2) (.int 2)) (.int 0)))) (.skip)) (.ret (.op2 .ne (.comp false (.var 4) (.v 4) .keys [.var 3] (.and (.ix (.var 4) (.int 1)) (.call g_leads [.var 1, .var 2, .ix (.var 4) (.int 0), .ix (.var 4) (.int 2)]))) (.lst [])))
def d_is_entry_right : Def := ⟨4, 5, s_is_entry_right⟩
def s_is_form : Ss := .ret (.and (.op2 .eq (.op2 .mod (.op2 .sub (.op1 .len (.var 0)) (.int 2)) (.int 3)) (.int 0)) (.op2 .le (.op1 .len (.var 0)) (.op2 .add (.int 2) (.op2 .mul (.int 3) (.int 7)))))
def d_is_form : Def := ⟨1, 1, s_is_form⟩
def s_is_dear : Ss := .seq (.for_ (.v 3) .rng [.int 7] (.seq (.set (.v 4) (.call g_entry_of [.var 0, .var 3])) (.seq (.set (.v 5) (.call g_entry_of [.var 2, .var 3])) (.ite (.and (.op1 .isNN (.var 4)) (.and (.op1 .isNN (.var 5)) (.and (.op2 .eq (.ix (.var 4) (.int 0)) (.ix (.var 5) (.int 0))) (.op2 .ge (.var 1) (.op2 .max (.ix (.var 4) (.int 2)) (.ix (.var 5) (.int 2))))))) (.ret (.bl true)) (.skip))))) (.ret (.bl false))
def d_is_dear : Def := ⟨3, 6, s_is_dear⟩
def s_says_cheapest : Ss := .seq (.set (.v 1) (.call g_fields_beside [.var 0, .int 2])) (.seq (.ite (.or (.op1 .isN (.var 1)) (.op2 .ne (.comp false (.var 6) (.v 6) .of [.cat (.lst [.ix (.var 1) (.int 0)]) (.ix (.var 1) (.int 1))] (.op1 .not (.call g_is_form [.var 6]))) (.lst []))) (.ret (.bl false)) (.skip)) (.seq (.set (.v 2) (.ix (.var 1) (.int 0))) (.seq (.set (.v 3) (.comp false (.tup [.ix (.var 5) (.int 0), .ix (.var 5) (.int 1), .var 6]) (.t [5, 6]) .zip [.ix (.var 0) (.int 3), .ix (.var 1) (.int 1)] (.bl true))) (.seq (.ite (.or (.op2 .ne (.op2 .eq (.ix (.var 2) (.int 1)) (.int 0)) (.op2 .eq (.ix (.var 2) (.int 0)) (.ix (.var 0) (.int 0)))) (.op2 .ne (.comp false (.var 5) (.v 5) .keys [.var 3] (.op2 .ne (.ix (.ix (.var 5) (.int 2)) (.int 0)) (.ix (.var 2) (.int 0)))) (.lst []))) (.ret (.bl false)) (.skip)) (.seq (.ite (.op1 .not (.call g_falls_to_one [.ix (.var 2) (.int 1), .comp false (.ix (.ix (.var 5) (.int 2)) (.int 1)) (.v 5) .keys [.var 3] (.ix (.var 5) (.int 1))])) (.ret (.bl false)) (.skip)) (.seq (.for_ (.v 4) .rng [.op2 .fdiv (.op2 .sub (.op1 .len (.var 2)) (.int 2)) (.int 3)] (.ite (.op1 .not (.call g_is_entry_right [.ix (.var 0) (.int 0), .var 4, .call g_entry_of [.var 2, .var 4], .var 3])) (.ret (.bl false)) (.skip))) (.ret (.op2 .eq (.comp false (.var 5) (.v 5) .keys [.var 3] (.and (.op1 .not (.ix (.var 5) (.int 1))) (.op1 .not (.call g_is_dear [.var 2, .ix (.var 5) (.int 0), .ix (.var 5) (.int 2)])))) (.lst [])))))))))
def d_says_cheapest : Def := ⟨1, 7, s_says_cheapest⟩
def s_says_round : Ss := .seq (.set (.v 1) (.call g_fields_beside [.var 0, .int 6])) (.seq (.ite (.or (.op1 .isN (.var 1)) (.op2 .ne (.comp false (.var 12) (.v 12) .of [.cat (.lst [.ix (.var 1) (.int 0)]) (.ix (.var 1) (.int 1))] (.op2 .ne (.op1 .len (.var 12)) (.int 6))) (.lst []))) (.ret (.bl false)) (.skip)) (.seq (.set (.t [5, 6, 7, 8, 9, 10]) (.ix (.var 1) (.int 0))) (.seq (.set (.v 2) (.ix (.var 1) (.int 1))) (.seq (.ite (.or (.op2 .ne (.var 5) (.ix (.var 0) (.int 0))) (.op2 .ne (.comp false (.var 11) (.v 11) .keys [.var 2] (.or (.op2 .ne (.ix (.var 11) (.int 1)) (.var 6)) (.op2 .ne (.ix (.var 11) (.int 2)) (.var 7)))) (.lst []))) (.ret (.bl false)) (.skip)) (.seq (.ite (.or (.op2 .lt (.var 7) (.int 3)) (.or (.op2 .ge (.var 8) (.var 7)) (.op2 .ne (.op2 .eq (.var 8) (.int 0)) (.op2 .eq (.var 6) (.var 5))))) (.ret (.bl false)) (.skip)) (.seq (.set (.v 3) (.comp false (.var 11) (.v 11) .keys [.var 2] (.and (.op2 .eq (.ix (.var 11) (.int 0)) (.var 9)) (.and (.op2 .eq (.ix (.var 11) (.int 3)) (.op2 .mod (.op2 .add (.var 8) (.int 1)) (.var 7))) (.op2 .eq (.ix (.var 11) (.int 5)) (.var 5)))))) (.seq (.set (.v 4) (.comp false (.var 11) (.v 11) .keys [.var 2] (.and (.op2 .eq (.ix (.var 11) (.int 0)) (.var 10)) (.and (.op2 .eq (.ix (.var 11) (.int 3)) (.op2 .mod (.op2 .sub (.var 8) (.int 1)) (.var 7))) (.op2 .eq (.ix (.var 11) (.int 4)) (.var 5)))))) (.ret (.and (.op2 .ne (.var 3) (.lst [])) (.op2 .ne (.var 4) (.lst [])))))))))))
def d_says_round : Def := ⟨1, 13, s_says_round⟩
def s_threes_of : Ss := .ret (.comp false (.io 0) (.v 1) .rng [.int 7, .op1 .len (.var 0), .int 3] (.bl true))
def d_threes_of : Def := ⟨1, 2, s_threes_of⟩
def s_below : Ss := .ret (.comp false (.var 3) (.v 3) .keys [.var 2] (.and (.op2 .eq (.ix (.var 3) (.int 3)) (.var 0)) (.op2 .eq (.ix (.var 3) (.int 2)) (.op2 .add (.ix (.var 1) (.int 2)) (.int 1)))))
def d_below : Def := ⟨3, 4, s_below⟩
def s_leaders_among : Ss := .seq (.ite (.op2 .eq (.var 1) (.lst [])) (.ret (.int 1)) (.skip)) (.ret (.op1 .len (.comp false (.var 2) (.v 2) .keys [.var 1] (.op2 .eq (.sl (.var 2) (.int 1) (.non)) (.tup [.var 0, .ix (.var 2) (.int 0)])))))
def d_leaders_among : Def := ⟨2, 3, s_leaders_among⟩
def s_goes_up : Ss := .seq (.ite (.or (.op2 .ne (.ix (.var 1) (.int 0)) (.var 0)) (.op2 .ne (.comp false (.var 3) (.v 3) .keys [.var 2] (.op2 .ne (.ix (.var 3) (.int 1)) (.ix (.var 1) (.int 1)))) (.lst []))) (.ret (.bl false)) (.skip)) (.seq (.ite (.op2 .eq (.ix (.var 1) (.int 1)) (.var 0)) (.ret (.and (.op2 .eq (.ix (.var 1) (.int 2)) (.int 0)) (.op2 .eq (.ix (.var 1) (.int 3)) (.var 0)))) (.skip)) (.ret (.and (.op2 .gt (.ix (.var 1) (.int 2)) (.int 0)) (.op2 .ne (.comp false (.var 3) (.v 3) .keys [.var 2] (.and (.op2 .eq (.ix (.var 3) (.int 0)) (.ix (.var 1) (.int 3))) (.op2 .eq (.ix (.var 3) (.int 2)) (.op2 .sub (.ix (.var 1) (.int 2)) (.int 1))))) (.lst [])))))
def d_goes_up : Def := ⟨3, 4, s_goes_up⟩
def s_are_threes_right : Ss := .seq (.ite (.or (.op2 .ne (.comp false (.ix (.var 6) (.int 0)) (.v 6) .keys [.var 1] (.bl true)) (.comp false (.ix (.var 4) (.int 0)) (.v 4) .keys [.var 2] (.bl true))) (.op2 .lt (.op1 .len (.io 0)) (.op1 .len (.var 2)))) (.ret (.bl false)) (.skip)) (.seq (.for_ (.t [3, 4]) .enu [.var 2] (.seq (.set (.v 5) (.comp false (.var 6) (.v 6) .of [.call g_threes_of [.var 4]] (.op2 .eq (.ix (.var 6) (.int 0)) (.var 0)))) (.ite (.or (.op2 .ne (.op1 .len (.var 5)) (.int 1)) (.op2 .ne (.sl (.ix (.var 5) (.int 0)) (.int 1) (.non)) (.sl (.ix (.var 1) (.op2 .mod (.op2 .add (.var 3) (.int 1)) (.op1 .len (.var 1)))) (.int 1) (.non)))) (.ret (.bl false)) (.skip)))) (.ret (.bl true)))
def d_are_threes_right : Def := ⟨3, 7, s_are_threes_right⟩
def s_says_ball : Ss := .seq (.set (.v 1) (.call g_fields_beside [.var 0, .int 7])) (.seq (.ite (.or (.op1 .isN (.var 1)) (.op2 .ne (.comp false (.var 9) (.v 9) .of [.cat (.lst [.ix (.var 1) (.int 0)]) (.ix (.var 1) (.int 1))] (.op2 .ne (.op2 .mod (.op2 .sub (.op1 .len (.var 9)) (.int 7)) (.int 3)) (.int 0))) (.lst []))) (.ret (.bl false)) (.skip)) (.seq (.set (.v 2) (.ix (.var 0) (.int 0))) (.seq (.set (.t [7, 8]) (.var 1)) (.seq (.set (.v 3) (.call g_threes_of [.var 7])) (.seq (.ite (.or (.op2 .ne (.op1 .len (.var 3)) (.op1 .len (.var 8))) (.or (.op1 .not (.call g_goes_up [.var 2, .var 7, .var 8])) (.op1 .not (.call g_are_threes_right [.var 2, .var 3, .var 8])))) (.ret (.bl false)) (.skip)) (.seq (.set (.v 4) (.call g_below [.var 2, .var 7, .var 8])) (.seq (.set (.v 5) (.lst [.int 1, .op1 .len (.var 8), .call g_leaders_among [.var 2, .var 3]])) (.seq (.for_ (.v 6) .rng [.int 3] (.ite (.op2 .ne (.ix (.var 7) (.op2 .add (.int 4) (.var 6))) (.op2 .add (.ix (.var 5) (.var 6)) (.op1 .sum (.comp false (.ix (.var 10) (.op2 .add (.int 4) (.var 6))) (.v 10) .keys [.var 4] (.bl true))))) (.ret (.bl false)) (.skip))) (.ret (.or (.op2 .ne (.ix (.var 7) (.int 1)) (.var 2)) (.op2 .eq (.op2 .add (.op2 .mul (.int 2) (.ix (.var 7) (.int 4))) (.op2 .mul (.int 2) (.ix (.var 7) (.int 6)))) (.op2 .add (.ix (.var 7) (.int 5)) (.int 4)))))))))))))
def d_says_ball : Def := ⟨1, 11, s_says_ball⟩
def s_pair_of : Ss := .seq (.set (.v 1) (.call g_fields_of [.var 0])) (.seq (.ite (.or (.op1 .isN (.var 1)) (.op2 .ne (.op1 .len (.var 1)) (.int 2))) (.ret (.non)) (.skip)) (.ret (.tup [.ix (.var 1) (.int 0), .ix (.var 1) (.int 1)])))
def d_pair_of : Def := ⟨1, 2, s_pair_of⟩
def s_pairs_of : Ss := .seq (.set (.v 1) (.call g_pair_of [.ix (.var 0) (.int 2)])) (.seq (.ite (.op1 .isN (.var 1)) (.ret (.non)) (.skip)) (.seq (.set (.v 2) (.lst [])) (.seq (.for_ (.t [3, 4, 5]) .of [.ix (.var 0) (.int 3)] (.seq (.set (.v 6) (.call g_pair_of [.var 5])) (.seq (.ite (.or (.op1 .isN (.var 6)) (.op2 .ne (.ix (.var 6) (.int 0)) (.ix (.var 1) (.int 0)))) (.ret (.non)) (.skip)) (.expr (.mut .append 2 [.tup [.var 3, .var 4, .ix (.var 6) (.int 1)]]))))) (.ret (.tup [.ix (.var 1) (.int 0), .ix (.var 1) (.int 1), .var 2])))))
def d_pairs_of : Def := ⟨1, 7, s_pairs_of⟩
def s_says_tree_by : Ss := .seq (.set (.t [2, 3, 4]) (.var 1)) (.seq (.ite (.op2 .ne (.op2 .eq (.var 3) (.int 0)) (.op2 .eq (.var 2) (.var 0))) (.ret (.bl false)) (.skip)) (.ret (.call g_falls_to_one [.var 3, .comp false (.ix (.var 5) (.int 2)) (.v 5) .keys [.var 4] (.ix (.var 5) (.int 1))])))
def d_says_tree_by : Def := ⟨2, 6, s_says_tree_by⟩
def s_says_tree : Ss := .seq (.set (.v 1) (.call g_pairs_of [.var 0])) (.ret (.and (.op1 .isNN (.var 1)) (.call g_says_tree_by [.ix (.var 0) (.int 0), .var 1])))
def d_says_tree : Def := ⟨1, 2, s_says_tree⟩
def s_says_near_k39 : Ss := .seq (.set (.v 1) (.call g_pairs_of [.var 0])) (.seq (.ite (.op1 .isN (.var 1)) (.ret (.bl false)) (.skip)) (.seq (.set (.t [3, 4, 5]) (.var 1)) (.seq (.ite (.or (.op2 .ne (.op2 .eq (.var 4) (.int 0)) (.op2 .eq (.var 3) (.ix (.var 0) (.int 0)))) (.op2 .ne (.op2 .eq (.var 4) (.int 0)) (.op2 .eq (.ix (.var 0) (.int 1)) (.int 1)))) (.ret (.bl false)) (.skip)) (.seq (.set (.v 2) (.int 0)) (.seq (.for_ (.t [6, 7, 8]) .keys [.var 5] (.seq (.ite (.or (.op2 .gt (.var 4) (.op2 .add (.var 8) (.var 6))) (.and (.var 7) (.op2 .ne (.op1 .abs (.op2 .sub (.var 8) (.var 4))) (.var 6)))) (.ret (.bl false)) (.skip)) (.set (.v 2) (.op2 .add (.var 2) (.op1 .int (.and (.var 7) (.op2 .eq (.op2 .add (.var 8) (.var 6)) (.var 4)))))))) (.ret (.or (.op2 .eq (.var 4) (.int 0)) (.op2 .eq (.var 2) (.int 1)))))))))
def d_says_near_k39 : Def := ⟨1, 9, s_says_near_k39⟩
def s_says_bare : Ss := .seq (.set (.v 1) (.call g_pairs_of [.var 0])) (.seq (.ite (.op1 .isN (.var 1)) (.ret (.bl false)) (.skip)) (.seq (.set (.t [2, 3, 4]) (.var 1)) (.ret (.and (.op2 .eq (.op2 .eq (.var 3) (.int 0)) (.op2 .eq (.var 2) (.ix (.var 0) (.int 0)))) (.call g_falls_to_one [.var 3, .comp false (.ix (.var 5) (.int 2)) (.v 5) .keys [.var 4] (.bl true)])))))
def d_says_bare : Def := ⟨1, 6, s_says_bare⟩
def s_says_sides : Ss := .seq (.ite (.op2 .NotIn (.ix (.var 0) (.int 2)) (.tup [.str "0", .str "1"])) (.ret (.bl false)) (.skip)) (.seq (.for_ (.t [1, 2, 3]) .of [.ix (.var 0) (.int 3)] (.ite (.or (.op2 .NotIn (.var 3) (.tup [.str "0", .str "1"])) (.op2 .eq (.var 3) (.ix (.var 0) (.int 2)))) (.ret (.bl false)) (.skip))) (.ret (.bl true)))
def d_says_sides : Def := ⟨1, 4, s_says_sides⟩
def s_says_odd : Ss := .seq (.set (.v 1) (.call g_pairs_of [.var 0])) (.seq (.ite (.op1 .isN (.var 1)) (.ret (.bl false)) (.skip)) (.seq (.set (.t [2, 3, 4]) (.var 1)) (.seq (.ite (.op2 .ne (.op2 .eq (.var 3) (.int 0)) (.op2 .eq (.var 2) (.ix (.var 0) (.int 0)))) (.ret (.bl false)) (.skip)) (.seq (.ite (.op2 .eq (.var 3) (.int 0)) (.ret (.op2 .ne (.comp false (.var 5) (.v 5) .keys [.var 4] (.op2 .eq (.op2 .mod (.ix (.var 5) (.int 2)) (.int 2)) (.int 0))) (.lst []))) (.skip)) (.ret (.op2 .ne (.comp false (.var 5) (.v 5) .keys [.var 4] (.op2 .eq (.ix (.var 5) (.int 2)) (.op2 .sub (.var 3) (.int 1)))) (.lst [])))))))
def d_says_odd : Def := ⟨1, 6, s_says_odd⟩
def s_parted : Ss := .seq (.set (.v 2) (.callv (.var 1) [.ix (.var 0) (.int 2)])) (.seq (.set (.v 3) (.comp false (.tup [.var 4, .var 5, .callv (.var 1) [.var 6]]) (.t [4, 5, 6]) .of [.ix (.var 0) (.int 3)] (.bl true))) (.seq (.ite (.or (.op1 .isN (.var 2)) (.op2 .ne (.comp false (.var 7) (.v 7) .keys [.var 3] (.op1 .isN (.ix (.var 7) (.int 2)))) (.lst []))) (.ret (.non)) (.skip)) (.ret (.tup [.ix (.var 0) (.int 0), .ix (.var 0) (.int 1), .var 2, .var 3]))))
def d_parted : Def := ⟨2, 8, s_parted⟩
def s_two_marks : Ss := .seq (.ite (.or (.op1 .isN (.var 0)) (.op2 .lt (.op1 .len (.var 0)) (.int 12))) (.ret (.non)) (.skip)) (.seq (.set (.v 1) (.call g_number_in [.sl (.var 0) (.non) (.int 12)])) (.seq (.ite (.op2 .lt (.op1 .len (.var 0)) (.op2 .add (.int 12) (.var 1))) (.ret (.non)) (.skip)) (.ret (.tup [.sl (.var 0) (.int 12) (.op2 .add (.int 12) (.var 1)), .sl (.var 0) (.op2 .add (.int 12) (.var 1)) (.non)]))))
def d_two_marks : Def := ⟨1, 2, s_two_marks⟩
def s_part_seen : Ss := .ret (.tup [.ix (.var 0) (.int 0), .ix (.var 0) (.int 1), .ix (.ix (.var 0) (.int 2)) (.var 1), .comp false (.tup [.var 2, .var 3, .ix (.var 4) (.var 1)]) (.t [2, 3, 4]) .of [.ix (.var 0) (.int 3)] (.bl true)])
def d_part_seen : Def := ⟨2, 5, s_part_seen⟩
def s_says_both_k39 : Ss := .seq (.set (.v 2) (.call g_parted [.var 1, .glo (.fn g_two_marks)])) (.seq (.ite (.op1 .isN (.var 2)) (.ret (.bl false)) (.skip)) (.ret (.and (.call g_says_k39 [.ix (.var 0) (.int 1), .call g_part_seen [.var 2, .int 0]]) (.call g_says_k39 [.ix (.var 0) (.int 2), .call g_part_seen [.var 2, .int 1]]))))
def d_says_both_k39 : Def := ⟨2, 3, s_says_both_k39⟩
def s_chosen_mark : Ss := .seq (.ite (.or (.op1 .isN (.var 0)) (.op2 .eq (.var 0) (.str ""))) (.ret (.non)) (.skip)) (.ret (.tup [.ix (.var 0) (.int 0), .sl (.var 0) (.int 1) (.non)]))
def d_chosen_mark : Def := ⟨1, 1, s_chosen_mark⟩
def s_says_either_k39 : Ss := .seq (.set (.v 2) (.call g_parted [.var 1, .glo (.fn g_chosen_mark)])) (.seq (.ite (.or (.op1 .isN (.var 2)) (.op2 .ne (.comp false (.var 3) (.v 3) .of [.ix (.var 2) (.int 3)] (.op2 .ne (.ix (.ix (.var 3) (.int 2)) (.int 0)) (.ix (.ix (.var 2) (.int 2)) (.int 0)))) (.lst []))) (.ret (.bl false)) (.skip)) (.ret (.call g_says_k39 [.ix (.var 0) (.op2 .add (.int 1) (.op1 .int (.ix (.ix (.var 2) (.int 2)) (.int 0)))), .call g_part_seen [.var 2, .int 1]])))
def d_says_either_k39 : Def := ⟨2, 4, s_says_either_k39⟩
def s_says_many : Ss := .seq (.set (.v 2) (.call g_fields_beside [.var 0, .int 5])) (.seq (.ite (.op1 .isN (.var 2)) (.ret (.bl false)) (.skip)) (.seq (.set (.t [3, 4]) (.var 2)) (.seq (.ite (.or (.op2 .ne (.comp false (.var 5) (.v 5) .of [.cat (.lst [.var 3]) (.var 4)] (.op2 .ne (.op1 .len (.var 5)) (.int 5))) (.lst [])) (.op1 .not (.call g_goes_up [.ix (.var 0) (.int 0), .var 3, .var 4]))) (.ret (.bl false)) (.skip)) (.seq (.ite (.and (.op2 .eq (.ix (.var 3) (.int 1)) (.ix (.var 0) (.int 0))) (.op2 .ne (.ix (.var 3) (.int 4)) (.var 1))) (.ret (.bl false)) (.skip)) (.ret (.op2 .eq (.ix (.var 3) (.int 4)) (.op2 .add (.int 1) (.op1 .sum (.comp false (.ix (.var 6) (.int 4)) (.v 6) .of [.call g_below [.ix (.var 0) (.int 0), .var 3, .var 4]] (.bl true))))))))))
def d_says_many : Def := ⟨2, 7, s_says_many⟩
def s_says_k39 : Ss := .seq (.ite (.op2 .eq (.ix (.var 0) (.int 0)) (.str "both")) (.ret (.call g_says_both_k39 [.var 0, .var 1])) (.skip)) (.seq (.ite (.op2 .eq (.ix (.var 0) (.int 0)) (.str "either")) (.ret (.call g_says_either_k39 [.var 0, .var 1])) (.skip)) (.seq (.ite (.op2 .eq (.ix (.var 0) (.int 0)) (.str "many")) (.ret (.call g_says_many [.var 1, .ix (.var 0) (.int 1)])) (.skip)) (.seq (.set (.v 2) (.dct [.str "tree", .glo (.fn g_says_tree), .str "near", .glo (.fn g_says_near_k39), .str "bare", .glo (.fn g_says_bare), .str "sides", .glo (.fn g_says_sides), .str "odd", .glo (.fn g_says_odd)])) (.seq (.setIx 2 (.str "pairing") (.glo (.fn g_says_pairing))) (.seq (.setIx 2 (.str "cheapest") (.glo (.fn g_says_cheapest))) (.seq (.setIx 2 (.str "round") (.glo (.fn g_says_round))) (.seq (.setIx 2 (.str "ball") (.glo (.fn g_says_ball))) (.ret (.callv (.ix (.var 2) (.ix (.var 0) (.int 0))) [.var 1])))))))))
def d_says_k39 : Def := ⟨2, 3, s_says_k39⟩
def s_law_said : Ss := .seq (.set (.v 2) (.tup [.ix (.var 1) (.int 0), .ix (.var 1) (.int 1), .ix (.var 1) (.int 2), .opP .list (.ix (.var 1) (.int 3))])) (.seq (.set (.v 3) (.call g_says_k39 [.var 0, .var 2])) (.seq (.ite (.or (.op1 .not (.op1 (.isi .bool) (.var 3))) (.op2 .ne (.var 2) (.var 1))) (.ret (.non)) (.skip)) (.ret (.var 3))))
def d_law_said : Def := ⟨2, 4, s_law_said⟩
def s_law_read_k39 : Ss := .seq (.ite (.or (.op1 .isN (.var 0)) (.op2 .ne (.op1 .len (.var 0)) (.int 24))) (.ret (.non)) (.skip)) (.seq (.set (.v 1) (.lst [.int 0, .int 0])) (.seq (.for_ (.v 2) .rng [.int 24] (.setIx 1 (.op2 .fdiv (.var 2) (.int 12)) (.op2 .add (.op2 .mul (.ix (.var 1) (.op2 .fdiv (.var 2) (.int 12))) (.int 2)) (.op1 .int (.ix (.var 0) (.var 2)))))) (.ret (.var 1))))
def d_law_read_k39 : Def := ⟨1, 3, s_law_read_k39⟩
def s_law_pairs_k39 : Ss := .seq (.set (.v 1) (.call g_law_read_k39 [.ix (.var 0) (.int 2)])) (.seq (.set (.v 2) (.comp false (.call g_law_read_k39 [.ix (.var 3) (.int 2)]) (.v 3) .of [.ix (.var 0) (.int 3)] (.bl true))) (.seq (.ite (.or (.op1 .isN (.var 1)) (.or (.op2 .In (.non) (.var 2)) (.op2 .ne (.comp true (.var 4) (.v 4) .keys [.var 2] (.op2 .ne (.ix (.var 4) (.int 0)) (.ix (.var 1) (.int 0)))) (.lst [])))) (.ret (.non)) (.skip)) (.ret (.tup [.ix (.var 1) (.int 0), .ix (.var 1) (.int 1), .comp false (.ix (.var 4) (.int 1)) (.v 4) .keys [.var 2] (.bl true)]))))
def d_law_pairs_k39 : Def := ⟨1, 5, s_law_pairs_k39⟩
def s_law_due_k40 : Ss := .seq (.set (.v 1) (.call g_law_pairs_k39 [.var 0])) (.seq (.ite (.op1 .isN (.var 1)) (.ret (.bl false)) (.skip)) (.seq (.set (.t [3, 4, 5]) (.var 1)) (.seq (.ite (.or (.op2 .ne (.op2 .eq (.var 4) (.int 0)) (.op2 .eq (.var 3) (.ix (.var 0) (.int 0)))) (.op2 .ne (.op2 .eq (.var 4) (.int 0)) (.op2 .eq (.ix (.var 0) (.int 1)) (.int 1)))) (.ret (.bl false)) (.skip)) (.seq (.set (.v 2) (.int 0)) (.seq (.for_ (.t [6, 7]) .zip [.var 5, .ix (.var 0) (.int 3)] (.seq (.ite (.op2 .lt (.op2 .add (.var 6) (.ix (.var 7) (.int 0))) (.var 4)) (.ret (.bl false)) (.skip)) (.seq (.ite (.and (.ix (.var 7) (.int 1)) (.op2 .NotIn (.var 4) (.lst [.op2 .add (.var 6) (.ix (.var 7) (.int 0)), .op2 .sub (.var 6) (.ix (.var 7) (.int 0))]))) (.ret (.bl false)) (.skip)) (.ite (.and (.ix (.var 7) (.int 1)) (.op2 .eq (.op2 .add (.var 6) (.ix (.var 7) (.int 0))) (.var 4))) (.set (.v 2) (.op2 .add (.var 2) (.int 1))) (.skip))))) (.ret (.or (.op2 .eq (.var 4) (.int 0)) (.op2 .eq (.var 2) (.int 1)))))))))
def d_law_due_k40 : Def := ⟨1, 8, s_law_due_k40⟩
def s_law_k40 : Ss := .seq (.for_ (.v 1) .rng [.op2 .max (.int 1) (.op2 .min (.op1 .len (.var 0)) (.int 30))] (.seq (.set (.v 2) (.call g_law_pool [.var 0, .var 1])) (.seq (.set (.v 3) (.call g_law_pair_view [.io 2])) (.seq (.ite (.op2 .ne (.call g_law_said [.tup [.str "near"], .var 3]) (.call g_law_due_k40 [.var 3])) (.ret (.bl false)) (.skip)) (.seq (.ite (.op2 .ne (.ix (.var 3) (.int 3)) (.lst [])) (.seq (.set (.t [5, 6, 7]) (.ix (.ix (.var 3) (.int 3)) (.op1 .neg (.int 1)))) (.seq (.set (.v 4) (.tup [.ix (.var 3) (.int 0), .ix (.var 3) (.int 1), .ix (.var 3) (.int 2), .cat (.sl (.ix (.var 3) (.int 3)) (.non) (.op1 .neg (.int 1))) (.lst [.tup [.op2 .add (.op2 .mod (.var 5) (.int 60)) (.int 1), .var 6, .var 7]])])) (.ite (.op2 .ne (.call g_law_said [.tup [.str "near"], .var 4]) (.call g_law_due_k40 [.var 4])) (.ret (.bl false)) (.skip)))) (.skip)) (.seq (.set (.v 4) (.tup [.ix (.var 3) (.int 0), .op2 .mod (.op2 .add (.ix (.var 3) (.int 1)) (.int 1)) (.int 3), .ix (.var 3) (.int 2), .ix (.var 3) (.int 3)])) (.seq (.ite (.op2 .ne (.call g_law_said [.tup [.str "near"], .var 4]) (.call g_law_due_k40 [.var 4])) (.ret (.bl false)) (.skip)) (.ite (.op2 .ne (.call g_law_said [.tup [.str "near"], .var 3]) (.call g_law_due_k40 [.var 3])) (.ret (.bl false)) (.skip))))))))) (.ret (.bl true))
def d_law_k40 : Def := ⟨1, 8, s_law_k40⟩
def tab (g : Nat) : Option Def := match g with
  | 0 => some d_law_cell_at
  | 1 => some d_law_pool
  | 2 => some d_law_take
  | 3 => some d_law_mark_k39
  | 4 => some d_law_odd_mark
  | 5 => some d_law_end
  | 6 => some d_law_pair_view
  | 7 => some d_is_two
  | 8 => some d_says_pairing
  | 9 => some d_number_in
  | 10 => some d_is_mark
  | 11 => some d_fields_of
  | 12 => some d_fields_beside
  | 13 => some d_falls_to_one
  | 14 => some d_entry_of
  | 15 => some d_leads
  | 16 => some d_is_entry_right
  | 17 => some d_is_form
  | 18 => some d_is_dear
  | 19 => some d_says_cheapest
  | 20 => some d_says_round
  | 21 => some d_threes_of
  | 22 => some d_below
  | 23 => some d_leaders_among
  | 24 => some d_goes_up
  | 25 => some d_are_threes_right
  | 26 => some d_says_ball
  | 27 => some d_pair_of
  | 28 => some d_pairs_of
  | 29 => some d_says_tree_by
  | 30 => some d_says_tree
  | 31 => some d_says_near_k39
  | 32 => some d_says_bare
  | 33 => some d_says_sides
  | 34 => some d_says_odd
  | 35 => some d_parted
  | 36 => some d_two_marks
  | 37 => some d_part_seen
  | 38 => some d_says_both_k39
  | 39 => some d_chosen_mark
  | 40 => some d_says_either_k39
  | 41 => some d_says_many
  | 42 => some d_says_k39
  | 43 => some d_law_said
  | 44 => some d_law_read_k39
  | 45 => some d_law_pairs_k39
  | 46 => some d_law_due_k40
  | 47 => some d_law_k40
  | _ => none
theorem cl_law_cell_at {n : Nat} {v0 v1 : Val} {P} (h : W.EX (call tab n) s_law_cell_at [some v0, some v1] (fun E => P (.non, .deep) (outs d_law_cell_at E)) fun x E => P x (outs d_law_cell_at E)) : CL (call tab (n + 1)) g_law_cell_at [v0, v1] P := CL_def (d := d_law_cell_at) rfl rfl h
theorem cl_law_pool {n : Nat} {v0 v1 : Val} {P} (h : W.EX (call tab n) s_law_pool [some v0, some v1, none, none] (fun E => P (.non, .deep) (outs d_law_pool E)) fun x E => P x (outs d_law_pool E)) : CL (call tab (n + 1)) g_law_pool [v0, v1] P := CL_def (d := d_law_pool) rfl rfl h
theorem cl_law_take {n : Nat} {v0 v1 : Val} {P} (h : W.EX (call tab n) s_law_take [some v0, some v1, none] (fun E => P (.non, .deep) (outs d_law_take E)) fun x E => P x (outs d_law_take E)) : CL (call tab (n + 1)) g_law_take [v0, v1] P := CL_def (d := d_law_take) rfl rfl h
theorem cl_law_mark_k39 {n : Nat} {v0 : Val} {P} (h : W.EX (call tab n) s_law_mark_k39 [some v0, none, none, none] (fun E => P (.non, .deep) (outs d_law_mark_k39 E)) fun x E => P x (outs d_law_mark_k39 E)) : CL (call tab (n + 1)) g_law_mark_k39 [v0] P := CL_def (d := d_law_mark_k39) rfl rfl h
theorem cl_law_odd_mark {n : Nat} {v0 v1 v2 : Val} {P} (h : W.EX (call tab n) s_law_odd_mark [some v0, some v1, some v2, none, none] (fun E => P (.non, .deep) (outs d_law_odd_mark E)) fun x E => P x (outs d_law_odd_mark E)) : CL (call tab (n + 1)) g_law_odd_mark [v0, v1, v2] P := CL_def (d := d_law_odd_mark) rfl rfl h
theorem cl_law_end {n : Nat} {v0 v1 v2 v3 : Val} {P} (h : W.EX (call tab n) s_law_end [some v0, some v1, some v2, some v3, none, none, none, none] (fun E => P (.non, .deep) (outs d_law_end E)) fun x E => P x (outs d_law_end E)) : CL (call tab (n + 1)) g_law_end [v0, v1, v2, v3] P := CL_def (d := d_law_end) rfl rfl h
theorem cl_law_pair_view {n : Nat} {v0 : Val} {P} (h : W.EX (call tab n) s_law_pair_view [some v0, none, none, none, none, none, none, none, none, none, none, none, none, none, none, none] (fun E => P (.non, .deep) (outs d_law_pair_view E)) fun x E => P x (outs d_law_pair_view E)) : CL (call tab (n + 1)) g_law_pair_view [v0] P := CL_def (d := d_law_pair_view) rfl rfl h
theorem cl_is_two {n : Nat} {v0 : Val} {P} (h : W.EX (call tab n) s_is_two [some v0] (fun E => P (.non, .deep) (outs d_is_two E)) fun x E => P x (outs d_is_two E)) : CL (call tab (n + 1)) g_is_two [v0] P := CL_def (d := d_is_two) rfl rfl h
theorem cl_says_pairing {n : Nat} {v0 : Val} {P} (h : W.EX (call tab n) s_says_pairing [some v0, none, none, none, none, none] (fun E => P (.non, .deep) (outs d_says_pairing E)) fun x E => P x (outs d_says_pairing E)) : CL (call tab (n + 1)) g_says_pairing [v0] P := CL_def (d := d_says_pairing) rfl rfl h
theorem cl_number_in {n : Nat} {v0 : Val} {P} (h : W.EX (call tab n) s_number_in [some v0, none, none] (fun E => P (.non, .deep) (outs d_number_in E)) fun x E => P x (outs d_number_in E)) : CL (call tab (n + 1)) g_number_in [v0] P := CL_def (d := d_number_in) rfl rfl h
theorem cl_is_mark {n : Nat} {v0 : Val} {P} (h : W.EX (call tab n) s_is_mark [some v0, none] (fun E => P (.non, .deep) (outs d_is_mark E)) fun x E => P x (outs d_is_mark E)) : CL (call tab (n + 1)) g_is_mark [v0] P := CL_def (d := d_is_mark) rfl rfl h
theorem cl_fields_of {n : Nat} {v0 : Val} {P} (h : W.EX (call tab n) s_fields_of [some v0, none] (fun E => P (.non, .deep) (outs d_fields_of E)) fun x E => P x (outs d_fields_of E)) : CL (call tab (n + 1)) g_fields_of [v0] P := CL_def (d := d_fields_of) rfl rfl h
theorem cl_fields_beside {n : Nat} {v0 v1 : Val} {P} (h : W.EX (call tab n) s_fields_beside [some v0, some v1, none, none, none, none, none, none] (fun E => P (.non, .deep) (outs d_fields_beside E)) fun x E => P x (outs d_fields_beside E)) : CL (call tab (n + 1)) g_fields_beside [v0, v1] P := CL_def (d := d_fields_beside) rfl rfl h
theorem cl_falls_to_one {n : Nat} {v0 v1 : Val} {P} (h : W.EX (call tab n) s_falls_to_one [some v0, some v1, none] (fun E => P (.non, .deep) (outs d_falls_to_one E)) fun x E => P x (outs d_falls_to_one E)) : CL (call tab (n + 1)) g_falls_to_one [v0, v1] P := CL_def (d := d_falls_to_one) rfl rfl h
theorem cl_entry_of {n : Nat} {v0 v1 : Val} {P} (h : W.EX (call tab n) s_entry_of [some v0, some v1] (fun E => P (.non, .deep) (outs d_entry_of E)) fun x E => P x (outs d_entry_of E)) : CL (call tab (n + 1)) g_entry_of [v0, v1] P := CL_def (d := d_entry_of) rfl rfl h
theorem cl_leads {n : Nat} {v0 v1 v2 v3 : Val} {P} (h : W.EX (call tab n) s_leads [some v0, some v1, some v2, some v3, none] (fun E => P (.non, .deep) (outs d_leads E)) fun x E => P x (outs d_leads E)) : CL (call tab (n + 1)) g_leads [v0, v1, v2, v3] P := CL_def (d := d_leads) rfl rfl h
theorem cl_is_entry_right {n : Nat} {v0 v1 v2 v3 : Val} {P} (h : W.EX (call tab n) s_is_entry_right [some v0, some v1, some v2, some v3, none] (fun E => P (.non, .deep) (outs d_is_entry_right E)) fun x E => P x (outs d_is_entry_right E)) : CL (call tab (n + 1)) g_is_entry_right [v0, v1, v2, v3] P := CL_def (d := d_is_entry_right) rfl rfl h
theorem cl_is_form {n : Nat} {v0 : Val} {P} (h : W.EX (call tab n) s_is_form [some v0] (fun E => P (.non, .deep) (outs d_is_form E)) fun x E => P x (outs d_is_form E)) : CL (call tab (n + 1)) g_is_form [v0] P := CL_def (d := d_is_form) rfl rfl h
theorem cl_is_dear {n : Nat} {v0 v1 v2 : Val} {P} (h : W.EX (call tab n) s_is_dear [some v0, some v1, some v2, none, none, none] (fun E => P (.non, .deep) (outs d_is_dear E)) fun x E => P x (outs d_is_dear E)) : CL (call tab (n + 1)) g_is_dear [v0, v1, v2] P := CL_def (d := d_is_dear) rfl rfl h
theorem cl_says_cheapest {n : Nat} {v0 : Val} {P} (h : W.EX (call tab n) s_says_cheapest [some v0, none, none, none, none, none, none] (fun E => P (.non, .deep) (outs d_says_cheapest E)) fun x E => P x (outs d_says_cheapest E)) : CL (call tab (n + 1)) g_says_cheapest [v0] P := CL_def (d := d_says_cheapest) rfl rfl h
theorem cl_says_round {n : Nat} {v0 : Val} {P} (h : W.EX (call tab n) s_says_round [some v0, none, none, none, none, none, none, none, none, none, none, none, none] (fun E => P (.non, .deep) (outs d_says_round E)) fun x E => P x (outs d_says_round E)) : CL (call tab (n + 1)) g_says_round [v0] P := CL_def (d := d_says_round) rfl rfl h
theorem cl_threes_of {n : Nat} {v0 : Val} {P} (h : W.EX (call tab n) s_threes_of [some v0, none] (fun E => P (.non, .deep) (outs d_threes_of E)) fun x E => P x (outs d_threes_of E)) : CL (call tab (n + 1)) g_threes_of [v0] P := CL_def (d := d_threes_of) rfl rfl h
theorem cl_below {n : Nat} {v0 v1 v2 : Val} {P} (h : W.EX (call tab n) s_below [some v0, some v1, some v2, none] (fun E => P (.non, .deep) (outs d_below E)) fun x E => P x (outs d_below E)) : CL (call tab (n + 1)) g_below [v0, v1, v2] P := CL_def (d := d_below) rfl rfl h
theorem cl_leaders_among {n : Nat} {v0 v1 : Val} {P} (h : W.EX (call tab n) s_leaders_among [some v0, some v1, none] (fun E => P (.non, .deep) (outs d_leaders_among E)) fun x E => P x (outs d_leaders_among E)) : CL (call tab (n + 1)) g_leaders_among [v0, v1] P := CL_def (d := d_leaders_among) rfl rfl h
theorem cl_goes_up {n : Nat} {v0 v1 v2 : Val} {P} (h : W.EX (call tab n) s_goes_up [some v0, some v1, some v2, none] (fun E => P (.non, .deep) (outs d_goes_up E)) fun x E => P x (outs d_goes_up E)) : CL (call tab (n + 1)) g_goes_up [v0, v1, v2] P := CL_def (d := d_goes_up) rfl rfl h
theorem cl_are_threes_right {n : Nat} {v0 v1 v2 : Val} {P} (h : W.EX (call tab n) s_are_threes_right [some v0, some v1, some v2, none, none, none, none] (fun E => P (.non, .deep) (outs d_are_threes_right E)) fun x E => P x (outs d_are_threes_right E)) : CL (call tab (n + 1)) g_are_threes_right [v0, v1, v2] P := CL_def (d := d_are_threes_right) rfl rfl h
theorem cl_says_ball {n : Nat} {v0 : Val} {P} (h : W.EX (call tab n) s_says_ball [some v0, none, none, none, none, none, none, none, none, none, none] (fun E => P (.non, .deep) (outs d_says_ball E)) fun x E => P x (outs d_says_ball E)) : CL (call tab (n + 1)) g_says_ball [v0] P := CL_def (d := d_says_ball) rfl rfl h
theorem cl_pair_of {n : Nat} {v0 : Val} {P} (h : W.EX (call tab n) s_pair_of [some v0, none] (fun E => P (.non, .deep) (outs d_pair_of E)) fun x E => P x (outs d_pair_of E)) : CL (call tab (n + 1)) g_pair_of [v0] P := CL_def (d := d_pair_of) rfl rfl h
theorem cl_pairs_of {n : Nat} {v0 : Val} {P} (h : W.EX (call tab n) s_pairs_of [some v0, none, none, none, none, none, none] (fun E => P (.non, .deep) (outs d_pairs_of E)) fun x E => P x (outs d_pairs_of E)) : CL (call tab (n + 1)) g_pairs_of [v0] P := CL_def (d := d_pairs_of) rfl rfl h
theorem cl_says_tree_by {n : Nat} {v0 v1 : Val} {P} (h : W.EX (call tab n) s_says_tree_by [some v0, some v1, none, none, none, none] (fun E => P (.non, .deep) (outs d_says_tree_by E)) fun x E => P x (outs d_says_tree_by E)) : CL (call tab (n + 1)) g_says_tree_by [v0, v1] P := CL_def (d := d_says_tree_by) rfl rfl h
theorem cl_says_tree {n : Nat} {v0 : Val} {P} (h : W.EX (call tab n) s_says_tree [some v0, none] (fun E => P (.non, .deep) (outs d_says_tree E)) fun x E => P x (outs d_says_tree E)) : CL (call tab (n + 1)) g_says_tree [v0] P := CL_def (d := d_says_tree) rfl rfl h
theorem cl_says_near_k39 {n : Nat} {v0 : Val} {P} (h : W.EX (call tab n) s_says_near_k39 [some v0, none, none, none, none, none, none, none, none] (fun E => P (.non, .deep) (outs d_says_near_k39 E)) fun x E => P x (outs d_says_near_k39 E)) : CL (call tab (n + 1)) g_says_near_k39 [v0] P := CL_def (d := d_says_near_k39) rfl rfl h
theorem cl_says_bare {n : Nat} {v0 : Val} {P} (h : W.EX (call tab n) s_says_bare [some v0, none, none, none, none, none] (fun E => P (.non, .deep) (outs d_says_bare E)) fun x E => P x (outs d_says_bare E)) : CL (call tab (n + 1)) g_says_bare [v0] P := CL_def (d := d_says_bare) rfl rfl h
theorem cl_says_sides {n : Nat} {v0 : Val} {P} (h : W.EX (call tab n) s_says_sides [some v0, none, none, none] (fun E => P (.non, .deep) (outs d_says_sides E)) fun x E => P x (outs d_says_sides E)) : CL (call tab (n + 1)) g_says_sides [v0] P := CL_def (d := d_says_sides) rfl rfl h
theorem cl_says_odd {n : Nat} {v0 : Val} {P} (h : W.EX (call tab n) s_says_odd [some v0, none, none, none, none, none] (fun E => P (.non, .deep) (outs d_says_odd E)) fun x E => P x (outs d_says_odd E)) : CL (call tab (n + 1)) g_says_odd [v0] P := CL_def (d := d_says_odd) rfl rfl h
theorem cl_parted {n : Nat} {v0 v1 : Val} {P} (h : W.EX (call tab n) s_parted [some v0, some v1, none, none, none, none, none, none] (fun E => P (.non, .deep) (outs d_parted E)) fun x E => P x (outs d_parted E)) : CL (call tab (n + 1)) g_parted [v0, v1] P := CL_def (d := d_parted) rfl rfl h
theorem cl_two_marks {n : Nat} {v0 : Val} {P} (h : W.EX (call tab n) s_two_marks [some v0, none] (fun E => P (.non, .deep) (outs d_two_marks E)) fun x E => P x (outs d_two_marks E)) : CL (call tab (n + 1)) g_two_marks [v0] P := CL_def (d := d_two_marks) rfl rfl h
theorem cl_part_seen {n : Nat} {v0 v1 : Val} {P} (h : W.EX (call tab n) s_part_seen [some v0, some v1, none, none, none] (fun E => P (.non, .deep) (outs d_part_seen E)) fun x E => P x (outs d_part_seen E)) : CL (call tab (n + 1)) g_part_seen [v0, v1] P := CL_def (d := d_part_seen) rfl rfl h
theorem cl_says_both_k39 {n : Nat} {v0 v1 : Val} {P} (h : W.EX (call tab n) s_says_both_k39 [some v0, some v1, none] (fun E => P (.non, .deep) (outs d_says_both_k39 E)) fun x E => P x (outs d_says_both_k39 E)) : CL (call tab (n + 1)) g_says_both_k39 [v0, v1] P := CL_def (d := d_says_both_k39) rfl rfl h
theorem cl_chosen_mark {n : Nat} {v0 : Val} {P} (h : W.EX (call tab n) s_chosen_mark [some v0] (fun E => P (.non, .deep) (outs d_chosen_mark E)) fun x E => P x (outs d_chosen_mark E)) : CL (call tab (n + 1)) g_chosen_mark [v0] P := CL_def (d := d_chosen_mark) rfl rfl h
theorem cl_says_either_k39 {n : Nat} {v0 v1 : Val} {P} (h : W.EX (call tab n) s_says_either_k39 [some v0, some v1, none, none] (fun E => P (.non, .deep) (outs d_says_either_k39 E)) fun x E => P x (outs d_says_either_k39 E)) : CL (call tab (n + 1)) g_says_either_k39 [v0, v1] P := CL_def (d := d_says_either_k39) rfl rfl h
theorem cl_says_many {n : Nat} {v0 v1 : Val} {P} (h : W.EX (call tab n) s_says_many [some v0, some v1, none, none, none, none, none] (fun E => P (.non, .deep) (outs d_says_many E)) fun x E => P x (outs d_says_many E)) : CL (call tab (n + 1)) g_says_many [v0, v1] P := CL_def (d := d_says_many) rfl rfl h
theorem cl_says_k39 {n : Nat} {v0 v1 : Val} {P} (h : W.EX (call tab n) s_says_k39 [some v0, some v1, none] (fun E => P (.non, .deep) (outs d_says_k39 E)) fun x E => P x (outs d_says_k39 E)) : CL (call tab (n + 1)) g_says_k39 [v0, v1] P := CL_def (d := d_says_k39) rfl rfl h
theorem cl_law_said {n : Nat} {v0 v1 : Val} {P} (h : W.EX (call tab n) s_law_said [some v0, some v1, none, none] (fun E => P (.non, .deep) (outs d_law_said E)) fun x E => P x (outs d_law_said E)) : CL (call tab (n + 1)) g_law_said [v0, v1] P := CL_def (d := d_law_said) rfl rfl h
theorem cl_law_read_k39 {n : Nat} {v0 : Val} {P} (h : W.EX (call tab n) s_law_read_k39 [some v0, none, none] (fun E => P (.non, .deep) (outs d_law_read_k39 E)) fun x E => P x (outs d_law_read_k39 E)) : CL (call tab (n + 1)) g_law_read_k39 [v0] P := CL_def (d := d_law_read_k39) rfl rfl h
theorem cl_law_pairs_k39 {n : Nat} {v0 : Val} {P} (h : W.EX (call tab n) s_law_pairs_k39 [some v0, none, none, none, none] (fun E => P (.non, .deep) (outs d_law_pairs_k39 E)) fun x E => P x (outs d_law_pairs_k39 E)) : CL (call tab (n + 1)) g_law_pairs_k39 [v0] P := CL_def (d := d_law_pairs_k39) rfl rfl h
theorem cl_law_due_k40 {n : Nat} {v0 : Val} {P} (h : W.EX (call tab n) s_law_due_k40 [some v0, none, none, none, none, none, none, none] (fun E => P (.non, .deep) (outs d_law_due_k40 E)) fun x E => P x (outs d_law_due_k40 E)) : CL (call tab (n + 1)) g_law_due_k40 [v0] P := CL_def (d := d_law_due_k40) rfl rfl h
theorem cl_law_k40 {n : Nat} {v0 : Val} {P} (h : W.EX (call tab n) s_law_k40 [some v0, none, none, none, none, none, none, none] (fun E => P (.non, .deep) (outs d_law_k40 E)) fun x E => P x (outs d_law_k40 E)) : CL (call tab (n + 1)) g_law_k40 [v0] P := CL_def (d := d_law_k40) rfl rfl h
end BS

set_option maxHeartbeats 4000000
namespace BS
open PySem L2
local macro_rules | `(tactic| simp! [$ls,*]) => `(tactic| simp (config := {dsimp := false, failIfUnchanged := false}) only [↓W_seq, ↓W_ite, ↓W_op1, ↓W_op2, ↓W_ix, ↓W_var, ↓W_int, ↓W_str, ↓W_bl, ↓W_non, ↓W_glo, ↓W_dct0, ↓W_inG, ↓W_mut, ↓W_nil, ↓W_cons, ↓W_tup, ↓W_lst, ↓W_and, ↓W_or, ↓W_ife, ↓W_list, ↓W_cat, ↓W_sl, ↓W_call, ↓W_anil, ↓W_aio, ↓W_gnil, ↓W_ginl, ↓W_ginr, ↓W_skip, ↓W_setv, ↓W_setT, ↓W_expr, ↓W_retn, ↓W_retv, ↓W_inil, ↓W_icons, ↓W_for, ↓W_rng, ↓W_of, ↓W_enu, ↓W_keys, ↓W_zip, ↓W_rev, ↓W_comp, ↓W_setIx, CHG_nil, GS_z, GS_s, OP_some, OP_ite, OP_map, PUT_def, BR_t, BR_f, BO_b, PL_t, PL_f, ↓ESC_var, ↓ESC_ix, ↓KESC_var, ↓KESC_ix, ↓HOLD_var, ↓HOLD_ix, ↓BRW_var, ↓BRW_ix, scat_ni, scat_il, scat_inr, List.tail_cons, List.set_cons_zero, List.set_cons_succ, shS_z, shS_s, shD_z, shD_s, item_lst', item_tup', item_scr', atI_lit, a2_add, a2_sub, a2_mul, a2_fdiv, a2_mod, a2_pow, a2_lt, a2_le, a2_gt, a2_ge, a2_eqi, a2_nei, a2_max, a2_min, a2_inl, a2_int, a2_nil, a2_nit, a2_ind, a2_nid, a1_not, a1_neg, a1_len, a1_int, a1_intb, a1_str, a1_abs, a1_isN, a1_isNN, a1_isi, len_lst, len_tup, len_scr, len_dic, setD_l, setD_d, mut_app, mut_ext, mut_ins, ixN_lit, it_of, it_oft, it_r1, it_r2, it_r3, it_enu, it_zip, it_rev, it_keys, it_keysl, it_keyst, it_keystx, ↓W_opr, rev_l, rev_map, zip0_map, ds_nil, ds_cons, listD_l, listD_t, bind_t, binds_nil, binds_cons, bind_v, List.getElem?_cons_zero, List.getElem?_cons_succ, List.length_cons, List.length_nil, List.contains_nil, List.contains_cons, List.nil_append, List.append_nil, List.cons_append, Bool.and_true, Bool.true_and, Bool.and_false, Bool.false_and, Bool.or_true, Bool.true_or, Bool.or_false, Bool.false_or, Bool.not_true, Bool.not_false, decide_true, decide_false, if_true, if_false, true_and, and_true, ne_eq, not_false_eq_true, not_true_eq_false, false_and, and_false, Option.some.injEq, Option.map_some, reduceCtorEq, reduceIte, Nat.reduceAdd, Nat.reduceLT, Nat.reduceEqDiff, Nat.reduceBEq, Int.reduceLT, Int.reduceLE, Int.reduceEq, Int.reduceAdd, Int.reduceSub, Int.reduceMul, Int.reduceNeg, Int.reducePow, Nat.reducePow, Bool.false_eq_true, Int.reduceToNat, or_true, true_or, or_false, false_or, natAbs_lit, a2_eqb, a2_neb, cast_lit, ↓W_dct, ↓W_callv, fnOf_fn, pairUp_nil, pairUp_cons, keysOk_eq, kdist_nil, kdist_cons, dhas_nil, dhas_cons, keq_int, keq_tx, keyOk_int, keyOk_tx, dget_nil, dget_cons, vals_nil, vals_cons, item_dic, set_dn, set_tx, set_int, ↓newLst_deep, plainsApp, app_map, a1_intt, intT0, intT1, a1_sum, a1_sumd, a2_count, dn_int, plains_dn, scalars_dn, shps_dn, a2_eqld, a2_neld, a1_isBt, a1_isBf, a1_isBn, a1_isBi, a1_isBs, a1_isBl, W_FLnil, W_FLcons, List.any_cons, List.any_nil, a2_eql0, a2_nel0, shps_tx, shps_ints, isEmpty_map, sIx_n, sIx_s, slD_l, slD_t, drop_map, take_map, a2_eqlt, a2_nelt, a2_eqli, a2_neli, Bool.and_eq_true, decide_eq_true_eq, filt_true, atI_map, catD_l, eq_self, true_implies, implies_true, line_def, plains_tx, plains_ints, scalars_tx, scalars_ints, inB_iff, rng_length, Nat.reduceLeDiff, and_self, Nat.reduceMul, List.length_map, List.forall_mem_cons, plain_tx, kplain_tx, scalar_tx, vl_tx, isNon_tx, isDicD_tx, isiOk_tx, ty_tx_str, ty_tx_int, ty_tx_bool, ty_tx_list, ty_tx_tuple, ty_tx_dict, len_tx, item_tx, a2_addt, a2_eqt, a2_net, deq_tx, a2_joine, a2_mult, it_tx, slD_tx, a2_ins, a2_nins, wipes_nil, wipes_cons, back_nil, back_cons, KP_n, KP_d, KP_t, KP_h, KP_s, keepNil, keepCons, shv_d, getD_z, getD_s, Bool.and_self, List.map_cons, List.map_nil, ↓ESC_int, ↓KESC_int, ↓HOLD_int, ↓BRW_int, ↓Wac_int, ↓Wret_int, slI_int, isPl_int, ↓ESC_str, ↓KESC_str, ↓HOLD_str, ↓BRW_str, ↓Wac_str, ↓Wret_str, slI_str, isPl_str, ↓ESC_bl, ↓KESC_bl, ↓HOLD_bl, ↓BRW_bl, ↓Wac_bl, ↓Wret_bl, slI_bl, isPl_bl, ↓ESC_non, ↓KESC_non, ↓HOLD_non, ↓BRW_non, ↓Wac_non, ↓Wret_non, isPl_non, ↓ESC_glo, ↓KESC_glo, ↓HOLD_glo, ↓BRW_glo, ↓Wac_glo, ↓Wret_glo, slI_glo, isPl_glo, ↓ESC_io, ↓KESC_io, ↓HOLD_io, ↓BRW_io, ↓Wret_io, slI_io, isPl_io, ↓ESC_sl, ↓KESC_sl, ↓HOLD_sl, ↓BRW_sl, ↓Wac_sl, ↓Wret_sl, slI_sl, isPl_sl, ↓ESC_op1, ↓KESC_op1, ↓HOLD_op1, ↓BRW_op1, ↓Wac_op1, ↓Wret_op1, slI_op1, isPl_op1, ↓ESC_op2, ↓KESC_op2, ↓HOLD_op2, ↓BRW_op2, ↓Wac_op2, ↓Wret_op2, slI_op2, isPl_op2, ↓ESC_opP, ↓KESC_opP, ↓HOLD_opP, ↓BRW_opP, ↓Wac_opP, ↓Wret_opP, slI_opP, isPl_opP, ↓ESC_cat, ↓KESC_cat, ↓HOLD_cat, ↓BRW_cat, ↓Wac_cat, ↓Wret_cat, slI_cat, isPl_cat, ↓ESC_rep, ↓KESC_rep, ↓HOLD_rep, ↓BRW_rep, ↓Wac_rep, ↓Wret_rep, slI_rep, isPl_rep, ↓ESC_and, ↓KESC_and, ↓HOLD_and, ↓BRW_and, ↓Wac_and, ↓Wret_and, slI_and, isPl_and, ↓ESC_or, ↓KESC_or, ↓HOLD_or, ↓BRW_or, ↓Wac_or, ↓Wret_or, slI_or, isPl_or, ↓ESC_ife, ↓KESC_ife, ↓HOLD_ife, ↓BRW_ife, ↓Wac_ife, ↓Wret_ife, slI_ife, isPl_ife, ↓ESC_tup, ↓KESC_tup, ↓HOLD_tup, ↓BRW_tup, ↓Wac_tup, ↓Wret_tup, slI_tup, isPl_tup, ↓ESC_lst, ↓KESC_lst, ↓HOLD_lst, ↓BRW_lst, ↓Wac_lst, ↓Wret_lst, slI_lst, isPl_lst, ↓ESC_dct0, ↓KESC_dct0, ↓HOLD_dct0, ↓BRW_dct0, ↓Wac_dct0, ↓Wret_dct0, slI_dct0, isPl_dct0, ↓ESC_dct, ↓KESC_dct, ↓HOLD_dct, ↓BRW_dct, ↓Wac_dct, ↓Wret_dct, slI_dct, isPl_dct, ↓ESC_inG, ↓KESC_inG, ↓HOLD_inG, ↓BRW_inG, ↓Wac_inG, ↓Wret_inG, slI_inG, isPl_inG, ↓ESC_call, ↓KESC_call, ↓HOLD_call, ↓BRW_call, ↓Wac_call, ↓Wret_call, slI_call, isPl_call, ↓ESC_callv, ↓KESC_callv, ↓HOLD_callv, ↓BRW_callv, ↓Wac_callv, ↓Wret_callv, slI_callv, isPl_callv, ↓ESC_mut, ↓KESC_mut, ↓HOLD_mut, ↓BRW_mut, ↓Wac_mut, ↓Wret_mut, slI_mut, isPl_mut, ↓ESC_mutP, ↓KESC_mutP, ↓HOLD_mutP, ↓BRW_mutP, ↓Wac_mutP, ↓Wret_mutP, slI_mutP, isPl_mutP, ↓ESC_comp, ↓KESC_comp, ↓HOLD_comp, ↓BRW_comp, ↓Wac_comp, ↓Wret_comp, slI_comp, isPl_comp, ↓Wac_var, ↓Wac_ix, ↓Wret_ix, slI_non, slI_var, slI_ix, isPl_var, isPl_ix, root_var, root_ix, plain_non, kpl_non, vl_non, isDicD_non, isNon_non, isLstD_non, down_nond, down_nont, down_nons, scalar_non, isiOk_non, ty_non_int, ty_non_str, ty_non_bool, ty_non_list, ty_non_tuple, ty_non_dict, plain_bl, kpl_bl, vl_bl, isDicD_bl, isNon_bl, isLstD_bl, down_bld, down_blt, down_bls, scalar_bl, isiOk_bl, ty_bl_int, ty_bl_str, ty_bl_bool, ty_bl_list, ty_bl_tuple, ty_bl_dict, plain_int, kpl_int, vl_int, isDicD_int, isNon_int, isLstD_int, down_intd, down_intt, down_ints, scalar_int, isiOk_int, ty_int_int, ty_int_str, ty_int_bool, ty_int_list, ty_int_tuple, ty_int_dict, plain_str, kpl_str, vl_str, isDicD_str, isNon_str, isLstD_str, down_strd, down_strt, down_strs, scalar_str, isiOk_str, ty_str_int, ty_str_str, ty_str_bool, ty_str_list, ty_str_tuple, ty_str_dict, plain_fn, kpl_fn, vl_fn, isDicD_fn, isNon_fn, isLstD_fn, down_fnd, down_fnt, down_fns, scalar_fn, ty_fn_int, ty_fn_str, ty_fn_bool, ty_fn_list, ty_fn_tuple, ty_fn_dict, plain_scr, kpl_scr, vl_scr, isDicD_scr, isNon_scr, isLstD_scr, down_scrd, down_scrt, down_scrs, scalar_scr, ty_scr_int, ty_scr_str, ty_scr_bool, ty_scr_list, ty_scr_tuple, ty_scr_dict, plain_tup, kpl_tup, vl_tup, isDicD_tup, isNon_tup, isLstD_tup, down_tupd, down_tupt, down_tups, scalar_tup, isiOk_tup, ty_tup_int, ty_tup_str, ty_tup_bool, ty_tup_list, ty_tup_tuple, ty_tup_dict, plain_lst, kpl_lst, vl_lst, isDicD_lst, isNon_lst, isLstD_lst, down_lstd, down_lstt, down_lsts, scalar_lst, isiOk_lst, ty_lst_int, ty_lst_str, ty_lst_bool, ty_lst_list, ty_lst_tuple, ty_lst_dict, plain_dic, kpl_dic, vl_dic, isDicD_dic, isNon_dic, isLstD_dic, down_dicd, down_dict, down_dics, scalar_dic, ty_dic_int, ty_dic_str, ty_dic_bool, ty_dic_list, ty_dic_tuple, ty_dic_dict, isiOk_dic, plains_nil, plains_cons, scalars_nil, scalars_cons, kid_deep, kid_top, kid_sh, allDeep_nil, allDeep_deep, allDeep_sh, allDeep_top, mkTup_ite, mkLst_ite, newLst_ite, wr_int, wr_str, wr_bl, wr_non, wr_glo, wr_var, wr_dct0, wr_io, wr_ix, wr_sl, wr_op1, wr_op2, wr_opP, wr_cat, wr_rep, wr_and, wr_or, wr_tup, wr_lst, wr_call, wrS_skip, wrS_seq, wrS_set, wrS_setIx, wrS_setP, wrS_expr, wrS_ite, wrS_for_, wrS_whl, wrS_ret, wrS_retn, wr_ife, wr_inG, wr_callv, wr_mut, wr_mutP, wr_compv, wr_compt, wrs_nil, wrs_cons, wrx_def, tgs_v, tgs_t, st_, st_30, st_3030, st_3031, st_31, st_62616c6c, st_62617265, st_626f7468, st_6368656170657374, st_656974686572, st_6d616e79, st_6e656172, st_6f6464, st_70616972696e67, st_726f756e64, st_7369646573, st_74726565, $ls,*])
local macro_rules | `(tactic| dsimp! [$ls,*]) => `(tactic| simp (config := {dsimp := false, failIfUnchanged := false}) only [↓W_seq, ↓W_op1, ↓W_op2, ↓W_ix, ↓W_var, ↓W_int, ↓W_str, ↓W_bl, ↓W_non, ↓W_glo, ↓W_dct0, ↓W_inG, ↓W_mut, ↓W_nil, ↓W_cons, ↓W_tup, ↓W_lst, ↓W_and, ↓W_or, ↓W_ife, ↓W_list, ↓W_cat, ↓W_sl, ↓W_call, ↓W_anil, ↓W_aio, ↓W_gnil, ↓W_ginl, ↓W_ginr, ↓W_skip, ↓W_setv, ↓W_setT, ↓W_expr, ↓W_retn, ↓W_retv, ↓W_inil, ↓W_icons, ↓W_for, ↓W_rng, ↓W_of, ↓W_enu, ↓W_keys, ↓W_zip, ↓W_rev, ↓W_comp, ↓W_setIx, CHG_nil, GS_z, GS_s, OP_some, OP_ite, OP_map, PUT_def, BR_t, BR_f, BO_b, PL_t, PL_f, ↓ESC_var, ↓ESC_ix, ↓KESC_var, ↓KESC_ix, ↓HOLD_var, ↓HOLD_ix, ↓BRW_var, ↓BRW_ix, scat_ni, scat_il, scat_inr, List.tail_cons, List.set_cons_zero, List.set_cons_succ, shS_z, shS_s, shD_z, shD_s, item_lst', item_tup', item_scr', atI_lit, a2_add, a2_sub, a2_mul, a2_fdiv, a2_mod, a2_pow, a2_lt, a2_le, a2_gt, a2_ge, a2_eqi, a2_nei, a2_max, a2_min, a2_inl, a2_int, a2_nil, a2_nit, a2_ind, a2_nid, a1_not, a1_neg, a1_len, a1_int, a1_intb, a1_str, a1_abs, a1_isN, a1_isNN, a1_isi, len_lst, len_tup, len_scr, len_dic, setD_l, setD_d, mut_app, mut_ext, mut_ins, ixN_lit, it_of, it_oft, it_r1, it_r2, it_r3, it_enu, it_zip, it_rev, it_keys, it_keysl, it_keyst, it_keystx, ↓W_opr, rev_l, rev_map, zip0_map, ds_nil, ds_cons, listD_l, listD_t, bind_t, binds_nil, binds_cons, bind_v, List.getElem?_cons_zero, List.getElem?_cons_succ, List.length_cons, List.length_nil, List.contains_nil, List.contains_cons, List.nil_append, List.append_nil, List.cons_append, Bool.and_true, Bool.true_and, Bool.and_false, Bool.false_and, Bool.or_true, Bool.true_or, Bool.or_false, Bool.false_or, Bool.not_true, Bool.not_false, decide_true, decide_false, if_true, if_false, true_and, and_true, ne_eq, not_false_eq_true, not_true_eq_false, false_and, and_false, Option.some.injEq, Option.map_some, reduceCtorEq, reduceIte, Nat.reduceAdd, Nat.reduceLT, Nat.reduceEqDiff, Nat.reduceBEq, Int.reduceLT, Int.reduceLE, Int.reduceEq, Int.reduceAdd, Int.reduceSub, Int.reduceMul, Int.reduceNeg, Int.reducePow, Nat.reducePow, Bool.false_eq_true, Int.reduceToNat, or_true, true_or, or_false, false_or, natAbs_lit, a2_eqb, a2_neb, cast_lit, ↓W_dct, ↓W_callv, fnOf_fn, pairUp_nil, pairUp_cons, keysOk_eq, kdist_nil, kdist_cons, dhas_nil, dhas_cons, keq_int, keq_tx, keyOk_int, keyOk_tx, dget_nil, dget_cons, vals_nil, vals_cons, item_dic, set_dn, set_tx, set_int, ↓newLst_deep, plainsApp, app_map, a1_intt, intT0, intT1, a1_sum, a1_sumd, a2_count, dn_int, plains_dn, scalars_dn, shps_dn, a2_eqld, a2_neld, a1_isBt, a1_isBf, a1_isBn, a1_isBi, a1_isBs, a1_isBl, W_FLnil, W_FLcons, List.any_cons, List.any_nil, a2_eql0, a2_nel0, shps_tx, shps_ints, isEmpty_map, sIx_n, sIx_s, slD_l, slD_t, drop_map, take_map, a2_eqlt, a2_nelt, a2_eqli, a2_neli, Bool.and_eq_true, decide_eq_true_eq, filt_true, atI_map, catD_l, eq_self, true_implies, implies_true, line_def, plains_tx, plains_ints, scalars_tx, scalars_ints, inB_iff, rng_length, Nat.reduceLeDiff, and_self, Nat.reduceMul, List.length_map, List.forall_mem_cons, plain_tx, kplain_tx, scalar_tx, vl_tx, isNon_tx, isDicD_tx, isiOk_tx, ty_tx_str, ty_tx_int, ty_tx_bool, ty_tx_list, ty_tx_tuple, ty_tx_dict, len_tx, item_tx, a2_addt, a2_eqt, a2_net, deq_tx, a2_joine, a2_mult, it_tx, slD_tx, a2_ins, a2_nins, wipes_nil, wipes_cons, back_nil, back_cons, KP_n, KP_d, KP_t, KP_h, KP_s, keepNil, keepCons, shv_d, getD_z, getD_s, Bool.and_self, List.map_cons, List.map_nil, ↓ESC_int, ↓KESC_int, ↓HOLD_int, ↓BRW_int, ↓Wac_int, ↓Wret_int, slI_int, isPl_int, ↓ESC_str, ↓KESC_str, ↓HOLD_str, ↓BRW_str, ↓Wac_str, ↓Wret_str, slI_str, isPl_str, ↓ESC_bl, ↓KESC_bl, ↓HOLD_bl, ↓BRW_bl, ↓Wac_bl, ↓Wret_bl, slI_bl, isPl_bl, ↓ESC_non, ↓KESC_non, ↓HOLD_non, ↓BRW_non, ↓Wac_non, ↓Wret_non, isPl_non, ↓ESC_glo, ↓KESC_glo, ↓HOLD_glo, ↓BRW_glo, ↓Wac_glo, ↓Wret_glo, slI_glo, isPl_glo, ↓ESC_io, ↓KESC_io, ↓HOLD_io, ↓BRW_io, ↓Wret_io, slI_io, isPl_io, ↓ESC_sl, ↓KESC_sl, ↓HOLD_sl, ↓BRW_sl, ↓Wac_sl, ↓Wret_sl, slI_sl, isPl_sl, ↓ESC_op1, ↓KESC_op1, ↓HOLD_op1, ↓BRW_op1, ↓Wac_op1, ↓Wret_op1, slI_op1, isPl_op1, ↓ESC_op2, ↓KESC_op2, ↓HOLD_op2, ↓BRW_op2, ↓Wac_op2, ↓Wret_op2, slI_op2, isPl_op2, ↓ESC_opP, ↓KESC_opP, ↓HOLD_opP, ↓BRW_opP, ↓Wac_opP, ↓Wret_opP, slI_opP, isPl_opP, ↓ESC_cat, ↓KESC_cat, ↓HOLD_cat, ↓BRW_cat, ↓Wac_cat, ↓Wret_cat, slI_cat, isPl_cat, ↓ESC_rep, ↓KESC_rep, ↓HOLD_rep, ↓BRW_rep, ↓Wac_rep, ↓Wret_rep, slI_rep, isPl_rep, ↓ESC_and, ↓KESC_and, ↓HOLD_and, ↓BRW_and, ↓Wac_and, ↓Wret_and, slI_and, isPl_and, ↓ESC_or, ↓KESC_or, ↓HOLD_or, ↓BRW_or, ↓Wac_or, ↓Wret_or, slI_or, isPl_or, ↓ESC_ife, ↓KESC_ife, ↓HOLD_ife, ↓BRW_ife, ↓Wac_ife, ↓Wret_ife, slI_ife, isPl_ife, ↓ESC_tup, ↓KESC_tup, ↓HOLD_tup, ↓BRW_tup, ↓Wac_tup, ↓Wret_tup, slI_tup, isPl_tup, ↓ESC_lst, ↓KESC_lst, ↓HOLD_lst, ↓BRW_lst, ↓Wac_lst, ↓Wret_lst, slI_lst, isPl_lst, ↓ESC_dct0, ↓KESC_dct0, ↓HOLD_dct0, ↓BRW_dct0, ↓Wac_dct0, ↓Wret_dct0, slI_dct0, isPl_dct0, ↓ESC_dct, ↓KESC_dct, ↓HOLD_dct, ↓BRW_dct, ↓Wac_dct, ↓Wret_dct, slI_dct, isPl_dct, ↓ESC_inG, ↓KESC_inG, ↓HOLD_inG, ↓BRW_inG, ↓Wac_inG, ↓Wret_inG, slI_inG, isPl_inG, ↓ESC_call, ↓KESC_call, ↓HOLD_call, ↓BRW_call, ↓Wac_call, ↓Wret_call, slI_call, isPl_call, ↓ESC_callv, ↓KESC_callv, ↓HOLD_callv, ↓BRW_callv, ↓Wac_callv, ↓Wret_callv, slI_callv, isPl_callv, ↓ESC_mut, ↓KESC_mut, ↓HOLD_mut, ↓BRW_mut, ↓Wac_mut, ↓Wret_mut, slI_mut, isPl_mut, ↓ESC_mutP, ↓KESC_mutP, ↓HOLD_mutP, ↓BRW_mutP, ↓Wac_mutP, ↓Wret_mutP, slI_mutP, isPl_mutP, ↓ESC_comp, ↓KESC_comp, ↓HOLD_comp, ↓BRW_comp, ↓Wac_comp, ↓Wret_comp, slI_comp, isPl_comp, ↓Wac_var, ↓Wac_ix, ↓Wret_ix, slI_non, slI_var, slI_ix, isPl_var, isPl_ix, root_var, root_ix, plain_non, kpl_non, vl_non, isDicD_non, isNon_non, isLstD_non, down_nond, down_nont, down_nons, scalar_non, isiOk_non, ty_non_int, ty_non_str, ty_non_bool, ty_non_list, ty_non_tuple, ty_non_dict, plain_bl, kpl_bl, vl_bl, isDicD_bl, isNon_bl, isLstD_bl, down_bld, down_blt, down_bls, scalar_bl, isiOk_bl, ty_bl_int, ty_bl_str, ty_bl_bool, ty_bl_list, ty_bl_tuple, ty_bl_dict, plain_int, kpl_int, vl_int, isDicD_int, isNon_int, isLstD_int, down_intd, down_intt, down_ints, scalar_int, isiOk_int, ty_int_int, ty_int_str, ty_int_bool, ty_int_list, ty_int_tuple, ty_int_dict, plain_str, kpl_str, vl_str, isDicD_str, isNon_str, isLstD_str, down_strd, down_strt, down_strs, scalar_str, isiOk_str, ty_str_int, ty_str_str, ty_str_bool, ty_str_list, ty_str_tuple, ty_str_dict, plain_fn, kpl_fn, vl_fn, isDicD_fn, isNon_fn, isLstD_fn, down_fnd, down_fnt, down_fns, scalar_fn, ty_fn_int, ty_fn_str, ty_fn_bool, ty_fn_list, ty_fn_tuple, ty_fn_dict, plain_scr, kpl_scr, vl_scr, isDicD_scr, isNon_scr, isLstD_scr, down_scrd, down_scrt, down_scrs, scalar_scr, ty_scr_int, ty_scr_str, ty_scr_bool, ty_scr_list, ty_scr_tuple, ty_scr_dict, plain_tup, kpl_tup, vl_tup, isDicD_tup, isNon_tup, isLstD_tup, down_tupd, down_tupt, down_tups, scalar_tup, isiOk_tup, ty_tup_int, ty_tup_str, ty_tup_bool, ty_tup_list, ty_tup_tuple, ty_tup_dict, plain_lst, kpl_lst, vl_lst, isDicD_lst, isNon_lst, isLstD_lst, down_lstd, down_lstt, down_lsts, scalar_lst, isiOk_lst, ty_lst_int, ty_lst_str, ty_lst_bool, ty_lst_list, ty_lst_tuple, ty_lst_dict, plain_dic, kpl_dic, vl_dic, isDicD_dic, isNon_dic, isLstD_dic, down_dicd, down_dict, down_dics, scalar_dic, ty_dic_int, ty_dic_str, ty_dic_bool, ty_dic_list, ty_dic_tuple, ty_dic_dict, isiOk_dic, plains_nil, plains_cons, scalars_nil, scalars_cons, kid_deep, kid_top, kid_sh, allDeep_nil, allDeep_deep, allDeep_sh, allDeep_top, mkTup_ite, mkLst_ite, newLst_ite, wr_int, wr_str, wr_bl, wr_non, wr_glo, wr_var, wr_dct0, wr_io, wr_ix, wr_sl, wr_op1, wr_op2, wr_opP, wr_cat, wr_rep, wr_and, wr_or, wr_tup, wr_lst, wr_call, wrS_skip, wrS_seq, wrS_set, wrS_setIx, wrS_setP, wrS_expr, wrS_ite, wrS_for_, wrS_whl, wrS_ret, wrS_retn, wr_ife, wr_inG, wr_callv, wr_mut, wr_mutP, wr_compv, wr_compt, wrs_nil, wrs_cons, wrx_def, tgs_v, tgs_t, st_, st_30, st_3030, st_3031, st_31, st_62616c6c, st_62617265, st_626f7468, st_6368656170657374, st_656974686572, st_6d616e79, st_6e656172, st_6f6464, st_70616972696e67, st_726f756e64, st_7369646573, st_74726565, $ls,*])
/- the shared helpers of all laws -/
theorem C_cell_at {n : Nat} {ns : List Int} {k : Int} (h0 : 0 ≤ k) : CL (call tab (n + 1)) g_law_cell_at [(.scr ns, .deep), (.int k, .deep)] fun r os => ∃ z : Int, r = (.int z, .deep) ∧ os = [some (.scr ns, .deep), some (.int k, .deep)] := by
  refine cl_law_cell_at ?_
  unfold s_law_cell_at
  simp! [List.map_cons, List.map_nil]
  refine BR_d (fun h => ?_) (fun h => ?_)
  · simp! []
    refine OP_at h0 h fun _ => ?_
    simp! []
    exact ⟨_, rfl, rfl⟩
  · simp! []
    exact ⟨_, rfl, rfl⟩
theorem C_pool {n : Nat} {ns : List Int} {k : Int} (h0 : 0 ≤ k) (h1 : k < 1000000) : CL (call tab (n + 2)) g_law_pool [(.scr ns, .deep), (.int k, .deep)] fun r os => ∃ a b : Int, r = (.lst [.int a, .int b], .deep) ∧ os = [some (.scr ns, .deep), some (.int k, .deep)] := by
  refine cl_law_pool ?_
  unfold s_law_pool
  simp! [List.map_cons, List.map_nil, List.replicate]
  refine cl (C_cell_at h0) ?_
  rintro _ _ ⟨z, rfl, rfl⟩
  simp! []
  refine ⟨by omega, ?_⟩
  refine BR_d (fun h => ?_) (fun h => ?_)
  · simp! []
    refine ⟨by omega, ?_⟩
    exact ⟨_, _, rfl, rfl⟩
  · simp! []
    refine ⟨by omega, ?_⟩
    exact ⟨_, _, rfl, rfl⟩
theorem C_take {n : Nat} {a b m : Int} (h0 : 0 < m) (h1 : m < 1073741824) : CL (call tab (n + 1)) g_law_take [(.lst [.int a, .int b], .deep), (.int m, .deep)] fun r os => ∃ v a' b' : Int, 0 ≤ v ∧ v < m ∧ r = (.int v, .deep) ∧ os = [some (.lst [.int a', .int b'], .deep), some (.int m, .deep)] := by
  refine cl_law_take ?_
  unfold s_law_take
  simp! [List.map_cons, List.map_nil, List.replicate]
  refine BR_d (fun h => ?_) (fun h => ?_)
  · simp! [h0, h1]
    exact ⟨_, _, _, Int.emod_nonneg _ (by omega), Int.emod_lt_of_pos _ h0, rfl, rfl⟩
  · simp! [h0, h1]
    refine ⟨by omega, ?_⟩
    exact ⟨_, _, _, Int.emod_nonneg _ (by omega), Int.emod_lt_of_pos _ h0, rfl, rfl⟩

/- marks and fields -/
def bitV (c : Nat) : Nat := if c = 49 then 1 else 0
def bitsN (l : List Nat) : Nat := l.foldl (fun a c => 2 * a + bitV c) 0
def isBits (l : List Nat) : Prop := ∀ c ∈ l, c = 48 ∨ c = 49
instance (l : List Nat) : Decidable (isBits l) := by unfold isBits; infer_instance
theorem take_succ' {α : Type} {l : List α} {k : Nat} (h : k < l.length) : l.take (k + 1) = l.take k ++ [l[k]] := by
  rw [List.take_succ, List.getElem?_eq_getElem h]; rfl
theorem bitsN_snoc {l : List Nat} {c : Nat} : bitsN (l ++ [c]) = 2 * bitsN l + bitV c := by
  unfold bitsN
  rw [List.foldl_append]
  rfl
def fieldA : Nat → Nat → List Nat
  | 0, _ => []
  | k + 1, n => fieldA k (n / 2) ++ [48 + n % 2]
theorem fieldA_len : ∀ {k n : Nat}, (fieldA k n).length = k
  | 0, _ => rfl
  | k + 1, n => by rw [fieldA, List.length_append, fieldA_len]; rfl
theorem fieldA_bits : ∀ {k n : Nat}, isBits (fieldA k n)
  | 0, _, c, h => by cases h
  | k + 1, n, c, h => by
    rw [fieldA] at h
    rcases List.mem_append.mp h with h | h
    · exact fieldA_bits c h
    · rw [List.mem_singleton.mp h]; omega
theorem fieldA_head : ∀ {k n : Nat}, fieldA (k + 1) n = [48 + n / 2 ^ k % 2] ++ fieldA k n
  | 0, n => by simp [fieldA]
  | k + 1, n => by
    rw [fieldA, fieldA_head, fieldA, Nat.div_div_eq_div_mul, ← Nat.pow_succ']
    simp
theorem bitsN_fieldA : ∀ {k n : Nat}, bitsN (fieldA k n) = n % 2 ^ k
  | 0, n => by simp [fieldA, bitsN, Nat.mod_one]
  | k + 1, n => by
    rw [fieldA, bitsN_snoc, bitsN_fieldA]
    have e : bitV (48 + n % 2) = n % 2 := by
      unfold bitV
      rcases Nat.mod_two_eq_zero_or_one n with h | h <;> rw [h] <;> rfl
    rw [e, Nat.pow_succ', Nat.mod_mul]
    omega
theorem fieldA_bitsN : ∀ {k : Nat} {l : List Nat}, l.length = k → isBits l → fieldA k (bitsN l) = l
  | 0, l, h, _ => by rw [List.length_eq_zero_iff.mp h]; rfl
  | k + 1, l, h, hb => by
    have hne : l ≠ [] := by intro z; subst z; cases h
    have e := List.dropLast_concat_getLast hne
    have hc := hb _ (List.getLast_mem hne)
    have hl : l.dropLast.length = k := by rw [List.length_dropLast, h]; rfl
    generalize hd : l.getLast hne = c at *
    have hb' : isBits l.dropLast := fun c hc => hb c (List.dropLast_subset _ hc)
    rw [← e, bitsN_snoc, fieldA]
    have e1 : (2 * bitsN l.dropLast + bitV c) / 2 = bitsN l.dropLast := by rcases hc with rfl | rfl <;> simp [bitV] <;> omega
    have e2 : 48 + (2 * bitsN l.dropLast + bitV c) % 2 = c := by rcases hc with rfl | rfl <;> simp [bitV] <;> omega
    rw [e1, e2, fieldA_bitsN hl hb']
theorem bitsN_lt : ∀ {l : List Nat}, bitsN l < 2 ^ l.length := by
  intro l
  have key : ∀ (n : Nat) (l : List Nat), l.length = n → bitsN l < 2 ^ n := by
    intro n
    induction n with
    | zero => intro l h; rw [List.length_eq_zero_iff.mp h]; decide
    | succ n ih =>
      intro l h
      have hne : l ≠ [] := by intro z; subst z; cases h
      have e := List.dropLast_concat_getLast hne
      have := ih l.dropLast (by rw [List.length_dropLast, h]; rfl)
      rw [← e, bitsN_snoc, Nat.pow_succ]
      have : bitV (l.getLast hne) ≤ 1 := by unfold bitV; split <;> omega
      omega
  exact key _ l rfl
def isMk (l : List Nat) : Prop := isBits l ∧ l.length ≤ 9000
instance (l : List Nat) : Decidable (isMk l) := by unfold isMk; infer_instance
/-- the fields of a mark -/
def fieldsN (l : List Nat) : List Nat := (List.range (l.length / 12)).map fun k => bitsN ((l.drop (12 * k)).take 12)
def fldE (l : List Nat) : D := if isMk l ∧ l.length % 12 = 0 then .lst ((fieldsN l).map dn) else .non
theorem C_number_in {n : Nat} {l : List Nat} : CL (call tab (n + 1)) g_number_in [(tx l, .deep)] fun r os => r = (.int (bitsN l : Nat), .deep) ∧ os = [some (tx l, .deep)] := by
  refine cl_number_in ?_
  unfold s_number_in
  simp! []
  refine FL_ix (fun k E => ∃ o, E = [some (tx l, .deep), some (.int (bitsN (l.take k) : Nat), .deep), o]) ⟨_, rfl⟩ ?_ ?_
  · rintro k _ h ⟨o, rfl⟩
    have hk : k < l.length := by simpa using h
    simp! [List.getElem_map]
    refine ⟨some (tx [l[k]], .deep), ?_⟩
    rw [take_succ' hk, bitsN_snoc]
    unfold bitV
    by_cases e : l[k] = 49 <;> simp [e]
  · rintro _ ⟨o, rfl⟩
    simp! [List.take_length]
    rfl
theorem C_is_mark {n : Nat} {l : List Nat} : CL (call tab (n + 1)) g_is_mark [(tx l, .deep)] fun r os => r = (.bl (decide (isMk l)), .deep) ∧ os = [some (tx l, .deep)] := by
  refine cl_is_mark ?_
  unfold s_is_mark
  simp! []
  refine BR_d (fun h => ?_) (fun h => ?_)
  · simp! []
    rw [decide_eq_false (fun z : isMk l => by have := z.2; omega)]
    exact ⟨rfl, rfl⟩
  · simp! []
    refine FL_ix (fun k E => isBits (l.take k) ∧ ∃ o, E = [some (tx l, .deep), o]) ⟨by simp [isBits], _, rfl⟩ ?_ ?_
    · rintro k _ h ⟨hb, o, rfl⟩
      have hk : k < l.length := by simpa using h
      simp! [List.getElem_map]
      refine BR_nd (fun h' => ?_) (fun h' => ?_)
      · simp! []
        rw [decide_eq_false (fun z : isMk l => h' (by have := z.1 _ (List.getElem_mem hk); simp; omega))]
        exact ⟨rfl, rfl⟩
      · simp! []
        refine ⟨fun c hc => ?_, _, rfl⟩
        rw [take_succ' hk] at hc
        rcases List.mem_append.mp hc with hc | hc
        · exact hb c hc
        · rw [List.mem_singleton.mp hc]; simpa using h'
    · rintro _ ⟨hb, o, rfl⟩
      simp! [List.take_length]
      rw [List.length_map, List.take_length] at hb
      rw [decide_eq_true (show isMk l from ⟨hb, by omega⟩)]
      exact ⟨rfl, rfl⟩
theorem C_fields_of {n : Nat} {l : List Nat} : CL (call tab (n + 2)) g_fields_of [(tx l, .deep)] fun r os => r = (fldE l, .deep) := by
  refine cl_fields_of ?_
  unfold s_fields_of
  dsimp! []
  refine EX_ifd (¬(isMk l ∧ l.length % 12 = 0)) ?_ (fun h => ?_) (fun h => ?_)
  · simp! []
    refine cl C_is_mark ?_
    rintro _ _ ⟨rfl, rfl⟩
    simp! []
    refine BR_nd (fun h => ?_) (fun h => ?_)
    · simp! []
      simp [h]
    · simp! []
      have e : ((l.length : Int) % 12 = 0) ↔ l.length % 12 = 0 := by omega
      simp [h, e]
  · simp! []
    unfold fldE
    rw [if_neg h]
  · have h := Decidable.not_not.mp h
    have hl := h.1.2
    unfold fldE
    rw [if_pos h]
    simp! []
    refine ⟨by omega, by omega, ?_⟩
    rw [rng_map]
    refine CP_pure _ (fun _ => true) (fun k => dn (bitsN ((l.drop (12 * k)).take 12))) ?_ ?_
    · intro k hk
      have hk : k < l.length / 12 := by have := List.mem_range.mp hk; omega
      simp! []
      refine cl C_number_in ?_
      rintro _ _ ⟨rfl, rfl⟩
      simp! []
      rw [if_neg (by omega), if_neg (by omega), show min (0 + (k : Int) * 12 + 12).toNat l.length - min (0 + (k : Int) * 12).toNat l.length = 12 by omega, show min (0 + (k : Int) * 12).toNat l.length = 12 * k by omega]
    · simp! []
      unfold fieldsN
      rw [List.map_map, show (((l.length : Int) - 0 + 12 - 1) / 12).toNat = l.length / 12 by have := h.2; omega]
      rfl

/- drawn texts of signs 0 and 1 -/
theorem GS_of {i : Nat} {E : En} {x : Val} {K : Val → Prop} (h : E[i]? = some (some x)) (k : K x) : GS i E K := ⟨x, h, k⟩
theorem CP_bits {i j n m : Nat} {E : En} {a b : Int} {K : List D → En → Prop} (hi : E[i]? = some (some (.lst [.int a, .int b], .deep))) (hij : i ≠ j) (hj : j < E.length)
    (k : ∀ l a' b', isBits l → l.length = m → K (l.map fun c => tx [c]) (E.set i (some (.lst [.int a', .int b'], .deep)))) :
    W.CP (call tab (n + 1)) false (.ix (.str "01") (.call g_law_take [.io i, .int 2])) (.v j) (.bl true) (rng 0 1 0 m) E [] (fun acc E2 => PUT (back (tgs (.v j)) E E2) fun E3 => K acc E3) := by
  refine CP_ix (fun k acc E' => ∃ (l : List Nat) (a b : Int), acc = (l.map fun c => tx [c]) ∧ l.length = k ∧ isBits l ∧ E'.length = E.length ∧ E'[i]? = some (some (.lst [.int a, .int b], .deep)) ∧ ∀ t, t ≠ i → t ≠ j → E'[t]? = E[t]?) ⟨[], a, b, rfl, rfl, by simp [isBits], rfl, hi, fun _ _ _ => rfl⟩ ?_ ?_
  · rintro k _ E' h ⟨l, a, b, rfl, hl, hb, hlen, hE, hO⟩
    rw [rng_get h]
    simp! []
    have hE1 : ((E'.set j none).set j (some (D.int (0 + ((0 + k : Nat) : Int) * 1), Ow.deep)))[i]? = some (some (.lst [.int a, .int b], .deep)) := by
      rw [List.getElem?_set_ne (Ne.symm hij), List.getElem?_set_ne (Ne.symm hij)]; exact hE
    refine GS_of hE1 ?_
    simp! []
    refine GS_of hE1 ?_
    simp! []
    refine cl (C_take (by decide) (by decide)) ?_
    rintro _ _ ⟨v, a', b', h0, h1, rfl, rfl⟩
    simp! []
    refine OP_mem h0 h1 ?_
    intro c hc
    simp! []
    have hi' : i < E'.length := (List.getElem?_eq_some_iff.mp hE).1
    refine ⟨l ++ [c], a', b', by simp, by simp [hl], ?_, by simp [hlen], ?_, ?_⟩
    · intro x hx
      rcases List.mem_append.mp hx with hx | hx
      · exact hb x hx
      · rw [List.mem_singleton.mp hx]; simpa using hc
    · simp [hi']
    · intro t h1 h2
      rw [List.getElem?_set_ne (Ne.symm h1), List.getElem?_set_ne (Ne.symm h1), List.getElem?_set_ne (Ne.symm h2), List.getElem?_set_ne (Ne.symm h2)]
      exact hO t h1 h2
  · rintro _ E' ⟨l, a, b, rfl, hl, hb, hlen, hE, hO⟩
    rw [rng_length] at hl
    have e : back [j] E E' = E.set i (some (.lst [.int a, .int b], .deep)) := by
      apply List.ext_getElem?
      intro t
      rw [back_cons, back_nil]
      have hi' : i < E.length := by rw [← hlen]; exact (List.getElem?_eq_some_iff.mp hE).1
      by_cases h1 : t = j
      · subst h1
        rw [List.getElem?_set_self (by omega), List.getElem?_set_ne hij, List.getD_eq_getElem?_getD, List.getElem?_eq_getElem hj]
        rfl
      · rw [List.getElem?_set_ne (Ne.symm h1)]
        by_cases h2 : t = i
        · subst h2
          rw [hE, List.getElem?_set_self hi']
        · rw [hO t h2 h1, List.getElem?_set_ne (Ne.symm h2)]
    show PUT (back [j] E E') _
    rw [e]
    exact k l a b hb hl
theorem ones_flat {l : List Nat} : (l.map fun c => [c]).flatten = l := by induction l <;> simp_all
theorem tx1_map {l : List Nat} : (l.map fun c => tx [c]) = (l.map fun c => [c]).map tx := by simp
theorem a2_join1 {l : List Nat} (h : l.length ≤ line) : app2 .join (tx []) (.lst (l.map fun c => tx [c])) = some (tx l) := by
  rw [tx1_map, a2_joine, if_pos, ones_flat]
  rw [sum_len (c := 1) (by simp)]
  simpa using h

/- views -/
abbrev Mk := Option (List Nat)
instance dMk : DecidableEq Mk := inferInstance
def mD (m : Mk) : D := match m with
  | none => .non
  | some l => tx l
theorem mD_none : mD none = .non := rfl
theorem mD_some {l} : mD (some l) = tx l := rfl
theorem plain_mk {m} : plain (mD m) = true := by cases m; exact plain_non; exact plain_tx
theorem kplain_mk {m} : kplain (mD m) = true := by cases m <;> rfl
theorem scalar_mk {m} : scalar (mD m) = true := by cases m <;> rfl
theorem vl_mk {m w} : vl (mD m) w = (mD m, .deep) := vl_t plain_mk
theorem isNon_mk {m : Mk} : isNon (mD m) = m.isNone := by cases m <;> rfl
theorem EQk.mk {n} : EQk n mD := by
  constructor
  · intro a; cases a; cases n <;> rfl; exact EQk.tx.1 _
  · intro a b
    cases a with
    | none => cases b with
      | none => simp [mD, deq]
      | some b => show deq D.non (D.str _) = true ↔ _; simp [deq]
    | some a => cases b with
      | none => show deq (D.str _) D.non = true ↔ _; simp [deq]
      | some b => simp [mD, deq_tx]
theorem deq_mk {m m'} : deq (mD m) (mD m') = decide (m = m') := by rw [Bool.eq_iff_iff, (EQk.mk (n := 30)).2, decide_eq_true_eq]
theorem deq_txmk {a m} : deq (tx a) (mD m) = decide (some a = m) := deq_mk (m := some a)
theorem a2_eqmk {m m'} : app2 .eq (mD m) (mD m') = some (.bl (decide (m = m'))) := EQk.mk.eq
theorem a2_nemk {m m'} : app2 .ne (mD m) (mD m') = some (.bl (!decide (m = m'))) := EQk.mk.ne
theorem a2_nemkt {m a} : app2 .ne (mD m) (tx a) = some (.bl (!decide (m = some a))) := EQk.mk.ne (b := some a)
abbrev End := Int × Bool × Mk
instance dEnd : DecidableEq End := inferInstance
instance dEnds : DecidableEq (List End) := inferInstance
instance dView : DecidableEq (Int × Int × Mk × List End) := inferInstance
def endD (e : End) : D := .tup [.int e.1, .bl e.2.1, mD e.2.2]
theorem plain_end {e} : plain (endD e) = true := by unfold endD; rw [plain_tup, plains_cons, plains_cons, plains_cons, plains_nil, plain_int, plain_bl, plain_mk]; rfl
theorem vl_end {e w} : vl (endD e) w = (endD e, .deep) := vl_t plain_end
theorem plains_end {es : List End} : plains (es.map endD) = true := plains_map fun _ _ => plain_end
theorem EQk.end {n} : EQk (n + 1) endD := EQk.t3 EQk.int EQk.bl EQk.mk
theorem shps_end {n} {es : List End} : shps (n + 1) (es.map endD) = true := shps_map EQk.end.1
def viewD (n b : Int) (o : Mk) (es : List End) : D := .tup [.int n, .int b, mD o, .lst (es.map endD)]
theorem view_eq {n b n' b' : Int} {o o' : Mk} {es es' : List End} : app2 .ne (viewD n b o es) (viewD n' b' o' es') = some (.bl (!decide ((n, b, o, es) = (n', b', o', es')))) := by
  have h1 : EQk 29 D.int := EQk.int
  have h2 : EQk 29 mD := EQk.mk
  have h3 : EQk 29 (fun l : List End => D.lst (l.map endD)) := EQk.lst (EQk.end (n := 27))
  have key : EQk 30 fun p : Int × Int × Mk × List End => viewD p.1 p.2.1 p.2.2.1 p.2.2.2 := by
    constructor
    · intro p
      show shp 30 (.tup [_, _, _, _]) = true
      rw [shp, shps, shps, shps, shps, shps, h1.1, h1.1, h2.1, h3.1]; rfl
    · intro a b
      show deq (.tup [_, _, _, _]) (.tup [_, _, _, _]) = true ↔ _
      rw [deq, deqs, deqs, deqs, deqs, deqs, Bool.and_eq_true, Bool.and_eq_true, Bool.and_eq_true, Bool.and_eq_true, h1.2, h1.2, h2.2, h3.2]
      simp [Prod.ext_iff]
  exact key.ne (a := (n, b, o, es)) (b := (n', b', o', es'))
theorem plain_view {n b : Int} {o : Mk} {es : List End} : plain (viewD n b o es) = false := by
  unfold viewD
  rw [plain_tup, plains_cons, plains_cons, plains_cons, plains_cons, plain_lst, plain_int, plain_int, plain_mk]
  rfl
local macro_rules | `(tactic| simp! [$ls,*]) => `(tactic| simp (config := {dsimp := false, failIfUnchanged := false}) only [↓W_seq, ↓W_ite, ↓W_op1, ↓W_op2, ↓W_ix, ↓W_var, ↓W_int, ↓W_str, ↓W_bl, ↓W_non, ↓W_glo, ↓W_dct0, ↓W_inG, ↓W_mut, ↓W_nil, ↓W_cons, ↓W_tup, ↓W_lst, ↓W_and, ↓W_or, ↓W_ife, ↓W_list, ↓W_cat, ↓W_sl, ↓W_call, ↓W_anil, ↓W_aio, ↓W_gnil, ↓W_ginl, ↓W_ginr, ↓W_skip, ↓W_setv, ↓W_setT, ↓W_expr, ↓W_retn, ↓W_retv, ↓W_inil, ↓W_icons, ↓W_for, ↓W_rng, ↓W_of, ↓W_enu, ↓W_keys, ↓W_zip, ↓W_rev, ↓W_comp, ↓W_setIx, CHG_nil, GS_z, GS_s, OP_some, OP_ite, OP_map, PUT_def, BR_t, BR_f, BO_b, PL_t, PL_f, ↓ESC_var, ↓ESC_ix, ↓KESC_var, ↓KESC_ix, ↓HOLD_var, ↓HOLD_ix, ↓BRW_var, ↓BRW_ix, scat_ni, scat_il, scat_inr, List.tail_cons, List.set_cons_zero, List.set_cons_succ, shS_z, shS_s, shD_z, shD_s, item_lst', item_tup', item_scr', atI_lit, a2_add, a2_sub, a2_mul, a2_fdiv, a2_mod, a2_pow, a2_lt, a2_le, a2_gt, a2_ge, a2_eqi, a2_nei, a2_max, a2_min, a2_inl, a2_int, a2_nil, a2_nit, a2_ind, a2_nid, a1_not, a1_neg, a1_len, a1_int, a1_intb, a1_str, a1_abs, a1_isN, a1_isNN, a1_isi, len_lst, len_tup, len_scr, len_dic, setD_l, setD_d, mut_app, mut_ext, mut_ins, ixN_lit, it_of, it_oft, it_r1, it_r2, it_r3, it_enu, it_zip, it_rev, it_keys, it_keysl, it_keyst, it_keystx, ↓W_opr, rev_l, rev_map, zip0_map, ds_nil, ds_cons, listD_l, listD_t, bind_t, binds_nil, binds_cons, bind_v, List.getElem?_cons_zero, List.getElem?_cons_succ, List.length_cons, List.length_nil, List.contains_nil, List.contains_cons, List.nil_append, List.append_nil, List.cons_append, Bool.and_true, Bool.true_and, Bool.and_false, Bool.false_and, Bool.or_true, Bool.true_or, Bool.or_false, Bool.false_or, Bool.not_true, Bool.not_false, decide_true, decide_false, if_true, if_false, true_and, and_true, ne_eq, not_false_eq_true, not_true_eq_false, false_and, and_false, Option.some.injEq, Option.map_some, reduceCtorEq, reduceIte, Nat.reduceAdd, Nat.reduceLT, Nat.reduceEqDiff, Nat.reduceBEq, Int.reduceLT, Int.reduceLE, Int.reduceEq, Int.reduceAdd, Int.reduceSub, Int.reduceMul, Int.reduceNeg, Int.reducePow, Nat.reducePow, Bool.false_eq_true, Int.reduceToNat, or_true, true_or, or_false, false_or, natAbs_lit, a2_eqb, a2_neb, cast_lit, ↓W_dct, ↓W_callv, fnOf_fn, pairUp_nil, pairUp_cons, keysOk_eq, kdist_nil, kdist_cons, dhas_nil, dhas_cons, keq_int, keq_tx, keyOk_int, keyOk_tx, dget_nil, dget_cons, vals_nil, vals_cons, item_dic, set_dn, set_tx, set_int, ↓newLst_deep, plainsApp, app_map, a1_intt, intT0, intT1, a1_sum, a1_sumd, a2_count, dn_int, plains_dn, scalars_dn, shps_dn, a2_eqld, a2_neld, a1_isBt, a1_isBf, a1_isBn, a1_isBi, a1_isBs, a1_isBl, W_FLnil, W_FLcons, List.any_cons, List.any_nil, a2_eql0, a2_nel0, shps_tx, shps_ints, isEmpty_map, sIx_n, sIx_s, slD_l, slD_t, drop_map, take_map, a2_eqlt, a2_nelt, a2_eqli, a2_neli, Bool.and_eq_true, decide_eq_true_eq, filt_true, atI_map, catD_l, eq_self, true_implies, implies_true, line_def, plains_tx, plains_ints, scalars_tx, scalars_ints, inB_iff, rng_length, Nat.reduceLeDiff, and_self, Nat.reduceMul, List.length_map, List.forall_mem_cons, plain_tx, kplain_tx, scalar_tx, vl_tx, isNon_tx, isDicD_tx, isiOk_tx, ty_tx_str, ty_tx_int, ty_tx_bool, ty_tx_list, ty_tx_tuple, ty_tx_dict, len_tx, item_tx, a2_addt, a2_eqt, a2_net, deq_tx, a2_joine, a2_mult, it_tx, slD_tx, a2_ins, a2_nins, wipes_nil, wipes_cons, back_nil, back_cons, KP_n, KP_d, KP_t, KP_h, KP_s, keepNil, keepCons, shv_d, getD_z, getD_s, Bool.and_self, List.map_cons, List.map_nil, ↓ESC_int, ↓KESC_int, ↓HOLD_int, ↓BRW_int, ↓Wac_int, ↓Wret_int, slI_int, isPl_int, ↓ESC_str, ↓KESC_str, ↓HOLD_str, ↓BRW_str, ↓Wac_str, ↓Wret_str, slI_str, isPl_str, ↓ESC_bl, ↓KESC_bl, ↓HOLD_bl, ↓BRW_bl, ↓Wac_bl, ↓Wret_bl, slI_bl, isPl_bl, ↓ESC_non, ↓KESC_non, ↓HOLD_non, ↓BRW_non, ↓Wac_non, ↓Wret_non, isPl_non, ↓ESC_glo, ↓KESC_glo, ↓HOLD_glo, ↓BRW_glo, ↓Wac_glo, ↓Wret_glo, slI_glo, isPl_glo, ↓ESC_io, ↓KESC_io, ↓HOLD_io, ↓BRW_io, ↓Wret_io, slI_io, isPl_io, ↓ESC_sl, ↓KESC_sl, ↓HOLD_sl, ↓BRW_sl, ↓Wac_sl, ↓Wret_sl, slI_sl, isPl_sl, ↓ESC_op1, ↓KESC_op1, ↓HOLD_op1, ↓BRW_op1, ↓Wac_op1, ↓Wret_op1, slI_op1, isPl_op1, ↓ESC_op2, ↓KESC_op2, ↓HOLD_op2, ↓BRW_op2, ↓Wac_op2, ↓Wret_op2, slI_op2, isPl_op2, ↓ESC_opP, ↓KESC_opP, ↓HOLD_opP, ↓BRW_opP, ↓Wac_opP, ↓Wret_opP, slI_opP, isPl_opP, ↓ESC_cat, ↓KESC_cat, ↓HOLD_cat, ↓BRW_cat, ↓Wac_cat, ↓Wret_cat, slI_cat, isPl_cat, ↓ESC_rep, ↓KESC_rep, ↓HOLD_rep, ↓BRW_rep, ↓Wac_rep, ↓Wret_rep, slI_rep, isPl_rep, ↓ESC_and, ↓KESC_and, ↓HOLD_and, ↓BRW_and, ↓Wac_and, ↓Wret_and, slI_and, isPl_and, ↓ESC_or, ↓KESC_or, ↓HOLD_or, ↓BRW_or, ↓Wac_or, ↓Wret_or, slI_or, isPl_or, ↓ESC_ife, ↓KESC_ife, ↓HOLD_ife, ↓BRW_ife, ↓Wac_ife, ↓Wret_ife, slI_ife, isPl_ife, ↓ESC_tup, ↓KESC_tup, ↓HOLD_tup, ↓BRW_tup, ↓Wac_tup, ↓Wret_tup, slI_tup, isPl_tup, ↓ESC_lst, ↓KESC_lst, ↓HOLD_lst, ↓BRW_lst, ↓Wac_lst, ↓Wret_lst, slI_lst, isPl_lst, ↓ESC_dct0, ↓KESC_dct0, ↓HOLD_dct0, ↓BRW_dct0, ↓Wac_dct0, ↓Wret_dct0, slI_dct0, isPl_dct0, ↓ESC_dct, ↓KESC_dct, ↓HOLD_dct, ↓BRW_dct, ↓Wac_dct, ↓Wret_dct, slI_dct, isPl_dct, ↓ESC_inG, ↓KESC_inG, ↓HOLD_inG, ↓BRW_inG, ↓Wac_inG, ↓Wret_inG, slI_inG, isPl_inG, ↓ESC_call, ↓KESC_call, ↓HOLD_call, ↓BRW_call, ↓Wac_call, ↓Wret_call, slI_call, isPl_call, ↓ESC_callv, ↓KESC_callv, ↓HOLD_callv, ↓BRW_callv, ↓Wac_callv, ↓Wret_callv, slI_callv, isPl_callv, ↓ESC_mut, ↓KESC_mut, ↓HOLD_mut, ↓BRW_mut, ↓Wac_mut, ↓Wret_mut, slI_mut, isPl_mut, ↓ESC_mutP, ↓KESC_mutP, ↓HOLD_mutP, ↓BRW_mutP, ↓Wac_mutP, ↓Wret_mutP, slI_mutP, isPl_mutP, ↓ESC_comp, ↓KESC_comp, ↓HOLD_comp, ↓BRW_comp, ↓Wac_comp, ↓Wret_comp, slI_comp, isPl_comp, ↓Wac_var, ↓Wac_ix, ↓Wret_ix, slI_non, slI_var, slI_ix, isPl_var, isPl_ix, root_var, root_ix, plain_non, kpl_non, vl_non, isDicD_non, isNon_non, isLstD_non, down_nond, down_nont, down_nons, scalar_non, isiOk_non, ty_non_int, ty_non_str, ty_non_bool, ty_non_list, ty_non_tuple, ty_non_dict, plain_bl, kpl_bl, vl_bl, isDicD_bl, isNon_bl, isLstD_bl, down_bld, down_blt, down_bls, scalar_bl, isiOk_bl, ty_bl_int, ty_bl_str, ty_bl_bool, ty_bl_list, ty_bl_tuple, ty_bl_dict, plain_int, kpl_int, vl_int, isDicD_int, isNon_int, isLstD_int, down_intd, down_intt, down_ints, scalar_int, isiOk_int, ty_int_int, ty_int_str, ty_int_bool, ty_int_list, ty_int_tuple, ty_int_dict, plain_str, kpl_str, vl_str, isDicD_str, isNon_str, isLstD_str, down_strd, down_strt, down_strs, scalar_str, isiOk_str, ty_str_int, ty_str_str, ty_str_bool, ty_str_list, ty_str_tuple, ty_str_dict, plain_fn, kpl_fn, vl_fn, isDicD_fn, isNon_fn, isLstD_fn, down_fnd, down_fnt, down_fns, scalar_fn, ty_fn_int, ty_fn_str, ty_fn_bool, ty_fn_list, ty_fn_tuple, ty_fn_dict, plain_scr, kpl_scr, vl_scr, isDicD_scr, isNon_scr, isLstD_scr, down_scrd, down_scrt, down_scrs, scalar_scr, ty_scr_int, ty_scr_str, ty_scr_bool, ty_scr_list, ty_scr_tuple, ty_scr_dict, plain_tup, kpl_tup, vl_tup, isDicD_tup, isNon_tup, isLstD_tup, down_tupd, down_tupt, down_tups, scalar_tup, isiOk_tup, ty_tup_int, ty_tup_str, ty_tup_bool, ty_tup_list, ty_tup_tuple, ty_tup_dict, plain_lst, kpl_lst, vl_lst, isDicD_lst, isNon_lst, isLstD_lst, down_lstd, down_lstt, down_lsts, scalar_lst, isiOk_lst, ty_lst_int, ty_lst_str, ty_lst_bool, ty_lst_list, ty_lst_tuple, ty_lst_dict, plain_dic, kpl_dic, vl_dic, isDicD_dic, isNon_dic, isLstD_dic, down_dicd, down_dict, down_dics, scalar_dic, ty_dic_int, ty_dic_str, ty_dic_bool, ty_dic_list, ty_dic_tuple, ty_dic_dict, isiOk_dic, plains_nil, plains_cons, scalars_nil, scalars_cons, kid_deep, kid_top, kid_sh, allDeep_nil, allDeep_deep, allDeep_sh, allDeep_top, mkTup_ite, mkLst_ite, newLst_ite, wr_int, wr_str, wr_bl, wr_non, wr_glo, wr_var, wr_dct0, wr_io, wr_ix, wr_sl, wr_op1, wr_op2, wr_opP, wr_cat, wr_rep, wr_and, wr_or, wr_tup, wr_lst, wr_call, wrS_skip, wrS_seq, wrS_set, wrS_setIx, wrS_setP, wrS_expr, wrS_ite, wrS_for_, wrS_whl, wrS_ret, wrS_retn, wr_ife, wr_inG, wr_callv, wr_mut, wr_mutP, wr_compv, wr_compt, wrs_nil, wrs_cons, wrx_def, tgs_v, tgs_t, st_, st_30, st_3030, st_3031, st_31, st_62616c6c, st_62617265, st_626f7468, st_6368656170657374, st_656974686572, st_6d616e79, st_6e656172, st_6f6464, st_70616972696e67, st_726f756e64, st_7369646573, st_74726565, vl_mk, plain_mk, kplain_mk, scalar_mk, isNon_mk, deq_txmk, a2_eqmk, a2_nemk, a2_nemkt, plain_end, vl_end, plains_end, shps_end, $ls,*])
local macro_rules | `(tactic| dsimp! [$ls,*]) => `(tactic| simp (config := {dsimp := false, failIfUnchanged := false}) only [↓W_seq, ↓W_op1, ↓W_op2, ↓W_ix, ↓W_var, ↓W_int, ↓W_str, ↓W_bl, ↓W_non, ↓W_glo, ↓W_dct0, ↓W_inG, ↓W_mut, ↓W_nil, ↓W_cons, ↓W_tup, ↓W_lst, ↓W_and, ↓W_or, ↓W_ife, ↓W_list, ↓W_cat, ↓W_sl, ↓W_call, ↓W_anil, ↓W_aio, ↓W_gnil, ↓W_ginl, ↓W_ginr, ↓W_skip, ↓W_setv, ↓W_setT, ↓W_expr, ↓W_retn, ↓W_retv, ↓W_inil, ↓W_icons, ↓W_for, ↓W_rng, ↓W_of, ↓W_enu, ↓W_keys, ↓W_zip, ↓W_rev, ↓W_comp, ↓W_setIx, CHG_nil, GS_z, GS_s, OP_some, OP_ite, OP_map, PUT_def, BR_t, BR_f, BO_b, PL_t, PL_f, ↓ESC_var, ↓ESC_ix, ↓KESC_var, ↓KESC_ix, ↓HOLD_var, ↓HOLD_ix, ↓BRW_var, ↓BRW_ix, scat_ni, scat_il, scat_inr, List.tail_cons, List.set_cons_zero, List.set_cons_succ, shS_z, shS_s, shD_z, shD_s, item_lst', item_tup', item_scr', atI_lit, a2_add, a2_sub, a2_mul, a2_fdiv, a2_mod, a2_pow, a2_lt, a2_le, a2_gt, a2_ge, a2_eqi, a2_nei, a2_max, a2_min, a2_inl, a2_int, a2_nil, a2_nit, a2_ind, a2_nid, a1_not, a1_neg, a1_len, a1_int, a1_intb, a1_str, a1_abs, a1_isN, a1_isNN, a1_isi, len_lst, len_tup, len_scr, len_dic, setD_l, setD_d, mut_app, mut_ext, mut_ins, ixN_lit, it_of, it_oft, it_r1, it_r2, it_r3, it_enu, it_zip, it_rev, it_keys, it_keysl, it_keyst, it_keystx, ↓W_opr, rev_l, rev_map, zip0_map, ds_nil, ds_cons, listD_l, listD_t, bind_t, binds_nil, binds_cons, bind_v, List.getElem?_cons_zero, List.getElem?_cons_succ, List.length_cons, List.length_nil, List.contains_nil, List.contains_cons, List.nil_append, List.append_nil, List.cons_append, Bool.and_true, Bool.true_and, Bool.and_false, Bool.false_and, Bool.or_true, Bool.true_or, Bool.or_false, Bool.false_or, Bool.not_true, Bool.not_false, decide_true, decide_false, if_true, if_false, true_and, and_true, ne_eq, not_false_eq_true, not_true_eq_false, false_and, and_false, Option.some.injEq, Option.map_some, reduceCtorEq, reduceIte, Nat.reduceAdd, Nat.reduceLT, Nat.reduceEqDiff, Nat.reduceBEq, Int.reduceLT, Int.reduceLE, Int.reduceEq, Int.reduceAdd, Int.reduceSub, Int.reduceMul, Int.reduceNeg, Int.reducePow, Nat.reducePow, Bool.false_eq_true, Int.reduceToNat, or_true, true_or, or_false, false_or, natAbs_lit, a2_eqb, a2_neb, cast_lit, ↓W_dct, ↓W_callv, fnOf_fn, pairUp_nil, pairUp_cons, keysOk_eq, kdist_nil, kdist_cons, dhas_nil, dhas_cons, keq_int, keq_tx, keyOk_int, keyOk_tx, dget_nil, dget_cons, vals_nil, vals_cons, item_dic, set_dn, set_tx, set_int, ↓newLst_deep, plainsApp, app_map, a1_intt, intT0, intT1, a1_sum, a1_sumd, a2_count, dn_int, plains_dn, scalars_dn, shps_dn, a2_eqld, a2_neld, a1_isBt, a1_isBf, a1_isBn, a1_isBi, a1_isBs, a1_isBl, W_FLnil, W_FLcons, List.any_cons, List.any_nil, a2_eql0, a2_nel0, shps_tx, shps_ints, isEmpty_map, sIx_n, sIx_s, slD_l, slD_t, drop_map, take_map, a2_eqlt, a2_nelt, a2_eqli, a2_neli, Bool.and_eq_true, decide_eq_true_eq, filt_true, atI_map, catD_l, eq_self, true_implies, implies_true, line_def, plains_tx, plains_ints, scalars_tx, scalars_ints, inB_iff, rng_length, Nat.reduceLeDiff, and_self, Nat.reduceMul, List.length_map, List.forall_mem_cons, plain_tx, kplain_tx, scalar_tx, vl_tx, isNon_tx, isDicD_tx, isiOk_tx, ty_tx_str, ty_tx_int, ty_tx_bool, ty_tx_list, ty_tx_tuple, ty_tx_dict, len_tx, item_tx, a2_addt, a2_eqt, a2_net, deq_tx, a2_joine, a2_mult, it_tx, slD_tx, a2_ins, a2_nins, wipes_nil, wipes_cons, back_nil, back_cons, KP_n, KP_d, KP_t, KP_h, KP_s, keepNil, keepCons, shv_d, getD_z, getD_s, Bool.and_self, List.map_cons, List.map_nil, ↓ESC_int, ↓KESC_int, ↓HOLD_int, ↓BRW_int, ↓Wac_int, ↓Wret_int, slI_int, isPl_int, ↓ESC_str, ↓KESC_str, ↓HOLD_str, ↓BRW_str, ↓Wac_str, ↓Wret_str, slI_str, isPl_str, ↓ESC_bl, ↓KESC_bl, ↓HOLD_bl, ↓BRW_bl, ↓Wac_bl, ↓Wret_bl, slI_bl, isPl_bl, ↓ESC_non, ↓KESC_non, ↓HOLD_non, ↓BRW_non, ↓Wac_non, ↓Wret_non, isPl_non, ↓ESC_glo, ↓KESC_glo, ↓HOLD_glo, ↓BRW_glo, ↓Wac_glo, ↓Wret_glo, slI_glo, isPl_glo, ↓ESC_io, ↓KESC_io, ↓HOLD_io, ↓BRW_io, ↓Wret_io, slI_io, isPl_io, ↓ESC_sl, ↓KESC_sl, ↓HOLD_sl, ↓BRW_sl, ↓Wac_sl, ↓Wret_sl, slI_sl, isPl_sl, ↓ESC_op1, ↓KESC_op1, ↓HOLD_op1, ↓BRW_op1, ↓Wac_op1, ↓Wret_op1, slI_op1, isPl_op1, ↓ESC_op2, ↓KESC_op2, ↓HOLD_op2, ↓BRW_op2, ↓Wac_op2, ↓Wret_op2, slI_op2, isPl_op2, ↓ESC_opP, ↓KESC_opP, ↓HOLD_opP, ↓BRW_opP, ↓Wac_opP, ↓Wret_opP, slI_opP, isPl_opP, ↓ESC_cat, ↓KESC_cat, ↓HOLD_cat, ↓BRW_cat, ↓Wac_cat, ↓Wret_cat, slI_cat, isPl_cat, ↓ESC_rep, ↓KESC_rep, ↓HOLD_rep, ↓BRW_rep, ↓Wac_rep, ↓Wret_rep, slI_rep, isPl_rep, ↓ESC_and, ↓KESC_and, ↓HOLD_and, ↓BRW_and, ↓Wac_and, ↓Wret_and, slI_and, isPl_and, ↓ESC_or, ↓KESC_or, ↓HOLD_or, ↓BRW_or, ↓Wac_or, ↓Wret_or, slI_or, isPl_or, ↓ESC_ife, ↓KESC_ife, ↓HOLD_ife, ↓BRW_ife, ↓Wac_ife, ↓Wret_ife, slI_ife, isPl_ife, ↓ESC_tup, ↓KESC_tup, ↓HOLD_tup, ↓BRW_tup, ↓Wac_tup, ↓Wret_tup, slI_tup, isPl_tup, ↓ESC_lst, ↓KESC_lst, ↓HOLD_lst, ↓BRW_lst, ↓Wac_lst, ↓Wret_lst, slI_lst, isPl_lst, ↓ESC_dct0, ↓KESC_dct0, ↓HOLD_dct0, ↓BRW_dct0, ↓Wac_dct0, ↓Wret_dct0, slI_dct0, isPl_dct0, ↓ESC_dct, ↓KESC_dct, ↓HOLD_dct, ↓BRW_dct, ↓Wac_dct, ↓Wret_dct, slI_dct, isPl_dct, ↓ESC_inG, ↓KESC_inG, ↓HOLD_inG, ↓BRW_inG, ↓Wac_inG, ↓Wret_inG, slI_inG, isPl_inG, ↓ESC_call, ↓KESC_call, ↓HOLD_call, ↓BRW_call, ↓Wac_call, ↓Wret_call, slI_call, isPl_call, ↓ESC_callv, ↓KESC_callv, ↓HOLD_callv, ↓BRW_callv, ↓Wac_callv, ↓Wret_callv, slI_callv, isPl_callv, ↓ESC_mut, ↓KESC_mut, ↓HOLD_mut, ↓BRW_mut, ↓Wac_mut, ↓Wret_mut, slI_mut, isPl_mut, ↓ESC_mutP, ↓KESC_mutP, ↓HOLD_mutP, ↓BRW_mutP, ↓Wac_mutP, ↓Wret_mutP, slI_mutP, isPl_mutP, ↓ESC_comp, ↓KESC_comp, ↓HOLD_comp, ↓BRW_comp, ↓Wac_comp, ↓Wret_comp, slI_comp, isPl_comp, ↓Wac_var, ↓Wac_ix, ↓Wret_ix, slI_non, slI_var, slI_ix, isPl_var, isPl_ix, root_var, root_ix, plain_non, kpl_non, vl_non, isDicD_non, isNon_non, isLstD_non, down_nond, down_nont, down_nons, scalar_non, isiOk_non, ty_non_int, ty_non_str, ty_non_bool, ty_non_list, ty_non_tuple, ty_non_dict, plain_bl, kpl_bl, vl_bl, isDicD_bl, isNon_bl, isLstD_bl, down_bld, down_blt, down_bls, scalar_bl, isiOk_bl, ty_bl_int, ty_bl_str, ty_bl_bool, ty_bl_list, ty_bl_tuple, ty_bl_dict, plain_int, kpl_int, vl_int, isDicD_int, isNon_int, isLstD_int, down_intd, down_intt, down_ints, scalar_int, isiOk_int, ty_int_int, ty_int_str, ty_int_bool, ty_int_list, ty_int_tuple, ty_int_dict, plain_str, kpl_str, vl_str, isDicD_str, isNon_str, isLstD_str, down_strd, down_strt, down_strs, scalar_str, isiOk_str, ty_str_int, ty_str_str, ty_str_bool, ty_str_list, ty_str_tuple, ty_str_dict, plain_fn, kpl_fn, vl_fn, isDicD_fn, isNon_fn, isLstD_fn, down_fnd, down_fnt, down_fns, scalar_fn, ty_fn_int, ty_fn_str, ty_fn_bool, ty_fn_list, ty_fn_tuple, ty_fn_dict, plain_scr, kpl_scr, vl_scr, isDicD_scr, isNon_scr, isLstD_scr, down_scrd, down_scrt, down_scrs, scalar_scr, ty_scr_int, ty_scr_str, ty_scr_bool, ty_scr_list, ty_scr_tuple, ty_scr_dict, plain_tup, kpl_tup, vl_tup, isDicD_tup, isNon_tup, isLstD_tup, down_tupd, down_tupt, down_tups, scalar_tup, isiOk_tup, ty_tup_int, ty_tup_str, ty_tup_bool, ty_tup_list, ty_tup_tuple, ty_tup_dict, plain_lst, kpl_lst, vl_lst, isDicD_lst, isNon_lst, isLstD_lst, down_lstd, down_lstt, down_lsts, scalar_lst, isiOk_lst, ty_lst_int, ty_lst_str, ty_lst_bool, ty_lst_list, ty_lst_tuple, ty_lst_dict, plain_dic, kpl_dic, vl_dic, isDicD_dic, isNon_dic, isLstD_dic, down_dicd, down_dict, down_dics, scalar_dic, ty_dic_int, ty_dic_str, ty_dic_bool, ty_dic_list, ty_dic_tuple, ty_dic_dict, isiOk_dic, plains_nil, plains_cons, scalars_nil, scalars_cons, kid_deep, kid_top, kid_sh, allDeep_nil, allDeep_deep, allDeep_sh, allDeep_top, mkTup_ite, mkLst_ite, newLst_ite, wr_int, wr_str, wr_bl, wr_non, wr_glo, wr_var, wr_dct0, wr_io, wr_ix, wr_sl, wr_op1, wr_op2, wr_opP, wr_cat, wr_rep, wr_and, wr_or, wr_tup, wr_lst, wr_call, wrS_skip, wrS_seq, wrS_set, wrS_setIx, wrS_setP, wrS_expr, wrS_ite, wrS_for_, wrS_whl, wrS_ret, wrS_retn, wr_ife, wr_inG, wr_callv, wr_mut, wr_mutP, wr_compv, wr_compt, wrs_nil, wrs_cons, wrx_def, tgs_v, tgs_t, st_, st_30, st_3030, st_3031, st_31, st_62616c6c, st_62617265, st_626f7468, st_6368656170657374, st_656974686572, st_6d616e79, st_6e656172, st_6f6464, st_70616972696e67, st_726f756e64, st_7369646573, st_74726565, vl_mk, plain_mk, kplain_mk, scalar_mk, isNon_mk, deq_txmk, a2_eqmk, a2_nemk, a2_nemkt, plain_end, vl_end, plains_end, shps_end, $ls,*])

/-- .. of one sign, of sides -/
def isSg (m : Mk) : Bool := decide (m = some [48]) || decide (m = some [49])
theorem sg_eq {o : Mk} : (decide (some [48] = o) || decide (some [49] = o)) = isSg o := by
  unfold isSg
  congr 1 <;> simp [eq_comm]
def sidesV (o : Mk) (es : List End) : Bool := isSg o && es.all fun e => isSg e.2.2 && !decide (e.2.2 = o)
theorem C_says_sides {n : Nat} {a b : Int} {o : Mk} {es : List End} : CL (call tab (n + 1)) g_says_sides [(viewD a b o es, .sh)] fun r os => r = (.bl (sidesV o es), .deep) := by
  refine cl_says_sides ?_
  unfold s_says_sides viewD
  dsimp! []
  refine EX_ifd (¬isSg o = true) ?_ (fun h => ?_) (fun h => ?_)
  · simp! []
    rw [sg_eq]
    cases isSg o <;> rfl
  · simp! []
    have h := eq_false_of_ne_true h
    unfold sidesV
    rw [h]
    rfl
  · simp! [vl_mk, plain_mk, plains_end]
    have h := Decidable.not_not.mp h
    refine FL_ix (fun k E => ((es.take k).all fun e => isSg e.2.2 && !decide (e.2.2 = o)) = true ∧ ∃ o1 o2 o3, E = [some (.tup [.int a, .int b, mD o, .lst (es.map endD)], .sh), o1, o2, o3]) ⟨rfl, none, none, none, rfl⟩ ?_ ?_
    · rintro k _ hk ⟨ha, o1, o2, o3, rfl⟩
      have hk : k < es.length := by simpa using hk
      dsimp! [List.getElem_map, endD]
      refine EX_ifd (¬(isSg es[k].2.2 && !decide (es[k].2.2 = o)) = true) ?_ (fun h' => ?_) (fun h' => ?_)
      · simp! []
        rw [sg_eq]
        cases h1 : isSg es[k].2.2 <;> simp! []
        by_cases h2 : es[k].2.2 = o <;> simp [h2]
      · simp! []
        unfold sidesV
        rw [show (es.all fun e => isSg e.2.2 && !decide (e.2.2 = o)) = false from List.all_eq_false.mpr ⟨es[k], List.getElem_mem hk, h'⟩, Bool.and_false]
      · simp! []
        refine ⟨?_, _, _, _, rfl⟩
        rw [take_succ' hk, List.all_append, ha]
        simpa using h'
    · rintro _ ⟨ha, o1, o2, o3, rfl⟩
      simp! []
      rw [List.length_map, List.take_length] at ha
      unfold sidesV
      rw [h, ha]
      rfl

local macro_rules | `(tactic| simp! [$ls,*]) => `(tactic| simp (config := {dsimp := false, failIfUnchanged := false}) only [↓W_seq, ↓W_ite, ↓W_op1, ↓W_op2, ↓W_ix, ↓W_var, ↓W_int, ↓W_str, ↓W_bl, ↓W_non, ↓W_glo, ↓W_dct0, ↓W_inG, ↓W_mut, ↓W_nil, ↓W_cons, ↓W_tup, ↓W_lst, ↓W_and, ↓W_or, ↓W_ife, ↓W_list, ↓W_cat, ↓W_sl, ↓W_call, ↓W_anil, ↓W_aio, ↓W_gnil, ↓W_ginl, ↓W_ginr, ↓W_skip, ↓W_setv, ↓W_setT, ↓W_expr, ↓W_retn, ↓W_retv, ↓W_inil, ↓W_icons, ↓W_for, ↓W_rng, ↓W_of, ↓W_enu, ↓W_keys, ↓W_zip, ↓W_rev, ↓W_comp, ↓W_setIx, CHG_nil, GS_z, GS_s, OP_some, OP_ite, OP_map, PUT_def, BR_t, BR_f, BO_b, PL_t, PL_f, ↓ESC_var, ↓ESC_ix, ↓KESC_var, ↓KESC_ix, ↓HOLD_var, ↓HOLD_ix, ↓BRW_var, ↓BRW_ix, scat_ni, scat_il, scat_inr, List.tail_cons, List.set_cons_zero, List.set_cons_succ, shS_z, shS_s, shD_z, shD_s, item_lst', item_tup', item_scr', atI_lit, a2_add, a2_sub, a2_mul, a2_fdiv, a2_mod, a2_pow, a2_lt, a2_le, a2_gt, a2_ge, a2_eqi, a2_nei, a2_max, a2_min, a2_inl, a2_int, a2_nil, a2_nit, a2_ind, a2_nid, a1_not, a1_neg, a1_len, a1_int, a1_intb, a1_str, a1_abs, a1_isN, a1_isNN, a1_isi, len_lst, len_tup, len_scr, len_dic, setD_l, setD_d, mut_app, mut_ext, mut_ins, ixN_lit, it_of, it_oft, it_r1, it_r2, it_r3, it_enu, it_zip, it_rev, it_keys, it_keysl, it_keyst, it_keystx, ↓W_opr, rev_l, rev_map, zip0_map, ds_nil, ds_cons, listD_l, listD_t, bind_t, binds_nil, binds_cons, bind_v, List.getElem?_cons_zero, List.getElem?_cons_succ, List.length_cons, List.length_nil, List.contains_nil, List.contains_cons, List.nil_append, List.append_nil, List.cons_append, Bool.and_true, Bool.true_and, Bool.and_false, Bool.false_and, Bool.or_true, Bool.true_or, Bool.or_false, Bool.false_or, Bool.not_true, Bool.not_false, decide_true, decide_false, if_true, if_false, true_and, and_true, ne_eq, not_false_eq_true, not_true_eq_false, false_and, and_false, Option.some.injEq, Option.map_some, reduceCtorEq, reduceIte, Nat.reduceAdd, Nat.reduceLT, Nat.reduceEqDiff, Nat.reduceBEq, Int.reduceLT, Int.reduceLE, Int.reduceEq, Int.reduceAdd, Int.reduceSub, Int.reduceMul, Int.reduceNeg, Int.reducePow, Nat.reducePow, Bool.false_eq_true, Int.reduceToNat, or_true, true_or, or_false, false_or, natAbs_lit, a2_eqb, a2_neb, cast_lit, ↓W_dct, ↓W_callv, fnOf_fn, pairUp_nil, pairUp_cons, keysOk_eq, kdist_nil, kdist_cons, dhas_nil, dhas_cons, keq_int, keq_tx, keyOk_int, keyOk_tx, dget_nil, dget_cons, vals_nil, vals_cons, item_dic, set_dn, set_tx, set_int, ↓newLst_deep, plainsApp, app_map, a1_intt, intT0, intT1, a1_sum, a1_sumd, a2_count, dn_int, plains_dn, scalars_dn, shps_dn, a2_eqld, a2_neld, a1_isBt, a1_isBf, a1_isBn, a1_isBi, a1_isBs, a1_isBl, W_FLnil, W_FLcons, List.any_cons, List.any_nil, a2_eql0, a2_nel0, shps_tx, shps_ints, isEmpty_map, sIx_n, sIx_s, slD_l, slD_t, drop_map, take_map, a2_eqlt, a2_nelt, a2_eqli, a2_neli, Bool.and_eq_true, decide_eq_true_eq, filt_true, atI_map, catD_l, eq_self, true_implies, implies_true, line_def, plains_tx, plains_ints, scalars_tx, scalars_ints, inB_iff, rng_length, Nat.reduceLeDiff, and_self, Nat.reduceMul, List.length_map, List.forall_mem_cons, plain_tx, kplain_tx, scalar_tx, vl_tx, isNon_tx, isDicD_tx, isiOk_tx, ty_tx_str, ty_tx_int, ty_tx_bool, ty_tx_list, ty_tx_tuple, ty_tx_dict, len_tx, item_tx, a2_addt, a2_eqt, a2_net, deq_tx, a2_joine, a2_mult, it_tx, slD_tx, a2_ins, a2_nins, wipes_nil, wipes_cons, back_nil, back_cons, KP_n, KP_d, KP_t, KP_h, KP_s, keepNil, keepCons, shv_d, getD_z, getD_s, Bool.and_self, List.map_cons, List.map_nil, ↓ESC_int, ↓KESC_int, ↓HOLD_int, ↓BRW_int, ↓Wac_int, ↓Wret_int, slI_int, isPl_int, ↓ESC_str, ↓KESC_str, ↓HOLD_str, ↓BRW_str, ↓Wac_str, ↓Wret_str, slI_str, isPl_str, ↓ESC_bl, ↓KESC_bl, ↓HOLD_bl, ↓BRW_bl, ↓Wac_bl, ↓Wret_bl, slI_bl, isPl_bl, ↓ESC_non, ↓KESC_non, ↓HOLD_non, ↓BRW_non, ↓Wac_non, ↓Wret_non, isPl_non, ↓ESC_glo, ↓KESC_glo, ↓HOLD_glo, ↓BRW_glo, ↓Wac_glo, ↓Wret_glo, slI_glo, isPl_glo, ↓ESC_io, ↓KESC_io, ↓HOLD_io, ↓BRW_io, ↓Wret_io, slI_io, isPl_io, ↓ESC_sl, ↓KESC_sl, ↓HOLD_sl, ↓BRW_sl, ↓Wac_sl, ↓Wret_sl, slI_sl, isPl_sl, ↓ESC_op1, ↓KESC_op1, ↓HOLD_op1, ↓BRW_op1, ↓Wac_op1, ↓Wret_op1, slI_op1, isPl_op1, ↓ESC_op2, ↓KESC_op2, ↓HOLD_op2, ↓BRW_op2, ↓Wac_op2, ↓Wret_op2, slI_op2, isPl_op2, ↓ESC_opP, ↓KESC_opP, ↓HOLD_opP, ↓BRW_opP, ↓Wac_opP, ↓Wret_opP, slI_opP, isPl_opP, ↓ESC_cat, ↓KESC_cat, ↓HOLD_cat, ↓BRW_cat, ↓Wac_cat, ↓Wret_cat, slI_cat, isPl_cat, ↓ESC_rep, ↓KESC_rep, ↓HOLD_rep, ↓BRW_rep, ↓Wac_rep, ↓Wret_rep, slI_rep, isPl_rep, ↓ESC_and, ↓KESC_and, ↓HOLD_and, ↓BRW_and, ↓Wac_and, ↓Wret_and, slI_and, isPl_and, ↓ESC_or, ↓KESC_or, ↓HOLD_or, ↓BRW_or, ↓Wac_or, ↓Wret_or, slI_or, isPl_or, ↓ESC_ife, ↓KESC_ife, ↓HOLD_ife, ↓BRW_ife, ↓Wac_ife, ↓Wret_ife, slI_ife, isPl_ife, ↓ESC_tup, ↓KESC_tup, ↓HOLD_tup, ↓BRW_tup, ↓Wac_tup, ↓Wret_tup, slI_tup, isPl_tup, ↓ESC_lst, ↓KESC_lst, ↓HOLD_lst, ↓BRW_lst, ↓Wac_lst, ↓Wret_lst, slI_lst, isPl_lst, ↓ESC_dct0, ↓KESC_dct0, ↓HOLD_dct0, ↓BRW_dct0, ↓Wac_dct0, ↓Wret_dct0, slI_dct0, isPl_dct0, ↓ESC_dct, ↓KESC_dct, ↓HOLD_dct, ↓BRW_dct, ↓Wac_dct, ↓Wret_dct, slI_dct, isPl_dct, ↓ESC_inG, ↓KESC_inG, ↓HOLD_inG, ↓BRW_inG, ↓Wac_inG, ↓Wret_inG, slI_inG, isPl_inG, ↓ESC_call, ↓KESC_call, ↓HOLD_call, ↓BRW_call, ↓Wac_call, ↓Wret_call, slI_call, isPl_call, ↓ESC_callv, ↓KESC_callv, ↓HOLD_callv, ↓BRW_callv, ↓Wac_callv, ↓Wret_callv, slI_callv, isPl_callv, ↓ESC_mut, ↓KESC_mut, ↓HOLD_mut, ↓BRW_mut, ↓Wac_mut, ↓Wret_mut, slI_mut, isPl_mut, ↓ESC_mutP, ↓KESC_mutP, ↓HOLD_mutP, ↓BRW_mutP, ↓Wac_mutP, ↓Wret_mutP, slI_mutP, isPl_mutP, ↓ESC_comp, ↓KESC_comp, ↓HOLD_comp, ↓BRW_comp, ↓Wac_comp, ↓Wret_comp, slI_comp, isPl_comp, ↓Wac_var, ↓Wac_ix, ↓Wret_ix, slI_non, slI_var, slI_ix, isPl_var, isPl_ix, root_var, root_ix, plain_non, kpl_non, vl_non, isDicD_non, isNon_non, isLstD_non, down_nond, down_nont, down_nons, scalar_non, isiOk_non, ty_non_int, ty_non_str, ty_non_bool, ty_non_list, ty_non_tuple, ty_non_dict, plain_bl, kpl_bl, vl_bl, isDicD_bl, isNon_bl, isLstD_bl, down_bld, down_blt, down_bls, scalar_bl, isiOk_bl, ty_bl_int, ty_bl_str, ty_bl_bool, ty_bl_list, ty_bl_tuple, ty_bl_dict, plain_int, kpl_int, vl_int, isDicD_int, isNon_int, isLstD_int, down_intd, down_intt, down_ints, scalar_int, isiOk_int, ty_int_int, ty_int_str, ty_int_bool, ty_int_list, ty_int_tuple, ty_int_dict, plain_str, kpl_str, vl_str, isDicD_str, isNon_str, isLstD_str, down_strd, down_strt, down_strs, scalar_str, isiOk_str, ty_str_int, ty_str_str, ty_str_bool, ty_str_list, ty_str_tuple, ty_str_dict, plain_fn, kpl_fn, vl_fn, isDicD_fn, isNon_fn, isLstD_fn, down_fnd, down_fnt, down_fns, scalar_fn, ty_fn_int, ty_fn_str, ty_fn_bool, ty_fn_list, ty_fn_tuple, ty_fn_dict, plain_scr, kpl_scr, vl_scr, isDicD_scr, isNon_scr, isLstD_scr, down_scrd, down_scrt, down_scrs, scalar_scr, ty_scr_int, ty_scr_str, ty_scr_bool, ty_scr_list, ty_scr_tuple, ty_scr_dict, plain_tup, kpl_tup, vl_tup, isDicD_tup, isNon_tup, isLstD_tup, down_tupd, down_tupt, down_tups, scalar_tup, isiOk_tup, ty_tup_int, ty_tup_str, ty_tup_bool, ty_tup_list, ty_tup_tuple, ty_tup_dict, plain_lst, kpl_lst, vl_lst, isDicD_lst, isNon_lst, isLstD_lst, down_lstd, down_lstt, down_lsts, scalar_lst, isiOk_lst, ty_lst_int, ty_lst_str, ty_lst_bool, ty_lst_list, ty_lst_tuple, ty_lst_dict, plain_dic, kpl_dic, vl_dic, isDicD_dic, isNon_dic, isLstD_dic, down_dicd, down_dict, down_dics, scalar_dic, ty_dic_int, ty_dic_str, ty_dic_bool, ty_dic_list, ty_dic_tuple, ty_dic_dict, isiOk_dic, plains_nil, plains_cons, scalars_nil, scalars_cons, kid_deep, kid_top, kid_sh, allDeep_nil, allDeep_deep, allDeep_sh, allDeep_top, mkTup_ite, mkLst_ite, newLst_ite, wr_int, wr_str, wr_bl, wr_non, wr_glo, wr_var, wr_dct0, wr_io, wr_ix, wr_sl, wr_op1, wr_op2, wr_opP, wr_cat, wr_rep, wr_and, wr_or, wr_tup, wr_lst, wr_call, wrS_skip, wrS_seq, wrS_set, wrS_setIx, wrS_setP, wrS_expr, wrS_ite, wrS_for_, wrS_whl, wrS_ret, wrS_retn, wr_ife, wr_inG, wr_callv, wr_mut, wr_mutP, wr_compv, wr_compt, wrs_nil, wrs_cons, wrx_def, tgs_v, tgs_t, st_, st_30, st_3030, st_3031, st_31, st_62616c6c, st_62617265, st_626f7468, st_6368656170657374, st_656974686572, st_6d616e79, st_6e656172, st_6f6464, st_70616972696e67, st_726f756e64, st_7369646573, st_74726565, vl_mk, plain_mk, kplain_mk, scalar_mk, isNon_mk, deq_txmk, a2_eqmk, a2_nemk, a2_nemkt, plain_end, vl_end, plains_end, shps_end, plain_view, $ls,*])
local macro_rules | `(tactic| dsimp! [$ls,*]) => `(tactic| simp (config := {dsimp := false, failIfUnchanged := false}) only [↓W_seq, ↓W_op1, ↓W_op2, ↓W_ix, ↓W_var, ↓W_int, ↓W_str, ↓W_bl, ↓W_non, ↓W_glo, ↓W_dct0, ↓W_inG, ↓W_mut, ↓W_nil, ↓W_cons, ↓W_tup, ↓W_lst, ↓W_and, ↓W_or, ↓W_ife, ↓W_list, ↓W_cat, ↓W_sl, ↓W_call, ↓W_anil, ↓W_aio, ↓W_gnil, ↓W_ginl, ↓W_ginr, ↓W_skip, ↓W_setv, ↓W_setT, ↓W_expr, ↓W_retn, ↓W_retv, ↓W_inil, ↓W_icons, ↓W_for, ↓W_rng, ↓W_of, ↓W_enu, ↓W_keys, ↓W_zip, ↓W_rev, ↓W_comp, ↓W_setIx, CHG_nil, GS_z, GS_s, OP_some, OP_ite, OP_map, PUT_def, BR_t, BR_f, BO_b, PL_t, PL_f, ↓ESC_var, ↓ESC_ix, ↓KESC_var, ↓KESC_ix, ↓HOLD_var, ↓HOLD_ix, ↓BRW_var, ↓BRW_ix, scat_ni, scat_il, scat_inr, List.tail_cons, List.set_cons_zero, List.set_cons_succ, shS_z, shS_s, shD_z, shD_s, item_lst', item_tup', item_scr', atI_lit, a2_add, a2_sub, a2_mul, a2_fdiv, a2_mod, a2_pow, a2_lt, a2_le, a2_gt, a2_ge, a2_eqi, a2_nei, a2_max, a2_min, a2_inl, a2_int, a2_nil, a2_nit, a2_ind, a2_nid, a1_not, a1_neg, a1_len, a1_int, a1_intb, a1_str, a1_abs, a1_isN, a1_isNN, a1_isi, len_lst, len_tup, len_scr, len_dic, setD_l, setD_d, mut_app, mut_ext, mut_ins, ixN_lit, it_of, it_oft, it_r1, it_r2, it_r3, it_enu, it_zip, it_rev, it_keys, it_keysl, it_keyst, it_keystx, ↓W_opr, rev_l, rev_map, zip0_map, ds_nil, ds_cons, listD_l, listD_t, bind_t, binds_nil, binds_cons, bind_v, List.getElem?_cons_zero, List.getElem?_cons_succ, List.length_cons, List.length_nil, List.contains_nil, List.contains_cons, List.nil_append, List.append_nil, List.cons_append, Bool.and_true, Bool.true_and, Bool.and_false, Bool.false_and, Bool.or_true, Bool.true_or, Bool.or_false, Bool.false_or, Bool.not_true, Bool.not_false, decide_true, decide_false, if_true, if_false, true_and, and_true, ne_eq, not_false_eq_true, not_true_eq_false, false_and, and_false, Option.some.injEq, Option.map_some, reduceCtorEq, reduceIte, Nat.reduceAdd, Nat.reduceLT, Nat.reduceEqDiff, Nat.reduceBEq, Int.reduceLT, Int.reduceLE, Int.reduceEq, Int.reduceAdd, Int.reduceSub, Int.reduceMul, Int.reduceNeg, Int.reducePow, Nat.reducePow, Bool.false_eq_true, Int.reduceToNat, or_true, true_or, or_false, false_or, natAbs_lit, a2_eqb, a2_neb, cast_lit, ↓W_dct, ↓W_callv, fnOf_fn, pairUp_nil, pairUp_cons, keysOk_eq, kdist_nil, kdist_cons, dhas_nil, dhas_cons, keq_int, keq_tx, keyOk_int, keyOk_tx, dget_nil, dget_cons, vals_nil, vals_cons, item_dic, set_dn, set_tx, set_int, ↓newLst_deep, plainsApp, app_map, a1_intt, intT0, intT1, a1_sum, a1_sumd, a2_count, dn_int, plains_dn, scalars_dn, shps_dn, a2_eqld, a2_neld, a1_isBt, a1_isBf, a1_isBn, a1_isBi, a1_isBs, a1_isBl, W_FLnil, W_FLcons, List.any_cons, List.any_nil, a2_eql0, a2_nel0, shps_tx, shps_ints, isEmpty_map, sIx_n, sIx_s, slD_l, slD_t, drop_map, take_map, a2_eqlt, a2_nelt, a2_eqli, a2_neli, Bool.and_eq_true, decide_eq_true_eq, filt_true, atI_map, catD_l, eq_self, true_implies, implies_true, line_def, plains_tx, plains_ints, scalars_tx, scalars_ints, inB_iff, rng_length, Nat.reduceLeDiff, and_self, Nat.reduceMul, List.length_map, List.forall_mem_cons, plain_tx, kplain_tx, scalar_tx, vl_tx, isNon_tx, isDicD_tx, isiOk_tx, ty_tx_str, ty_tx_int, ty_tx_bool, ty_tx_list, ty_tx_tuple, ty_tx_dict, len_tx, item_tx, a2_addt, a2_eqt, a2_net, deq_tx, a2_joine, a2_mult, it_tx, slD_tx, a2_ins, a2_nins, wipes_nil, wipes_cons, back_nil, back_cons, KP_n, KP_d, KP_t, KP_h, KP_s, keepNil, keepCons, shv_d, getD_z, getD_s, Bool.and_self, List.map_cons, List.map_nil, ↓ESC_int, ↓KESC_int, ↓HOLD_int, ↓BRW_int, ↓Wac_int, ↓Wret_int, slI_int, isPl_int, ↓ESC_str, ↓KESC_str, ↓HOLD_str, ↓BRW_str, ↓Wac_str, ↓Wret_str, slI_str, isPl_str, ↓ESC_bl, ↓KESC_bl, ↓HOLD_bl, ↓BRW_bl, ↓Wac_bl, ↓Wret_bl, slI_bl, isPl_bl, ↓ESC_non, ↓KESC_non, ↓HOLD_non, ↓BRW_non, ↓Wac_non, ↓Wret_non, isPl_non, ↓ESC_glo, ↓KESC_glo, ↓HOLD_glo, ↓BRW_glo, ↓Wac_glo, ↓Wret_glo, slI_glo, isPl_glo, ↓ESC_io, ↓KESC_io, ↓HOLD_io, ↓BRW_io, ↓Wret_io, slI_io, isPl_io, ↓ESC_sl, ↓KESC_sl, ↓HOLD_sl, ↓BRW_sl, ↓Wac_sl, ↓Wret_sl, slI_sl, isPl_sl, ↓ESC_op1, ↓KESC_op1, ↓HOLD_op1, ↓BRW_op1, ↓Wac_op1, ↓Wret_op1, slI_op1, isPl_op1, ↓ESC_op2, ↓KESC_op2, ↓HOLD_op2, ↓BRW_op2, ↓Wac_op2, ↓Wret_op2, slI_op2, isPl_op2, ↓ESC_opP, ↓KESC_opP, ↓HOLD_opP, ↓BRW_opP, ↓Wac_opP, ↓Wret_opP, slI_opP, isPl_opP, ↓ESC_cat, ↓KESC_cat, ↓HOLD_cat, ↓BRW_cat, ↓Wac_cat, ↓Wret_cat, slI_cat, isPl_cat, ↓ESC_rep, ↓KESC_rep, ↓HOLD_rep, ↓BRW_rep, ↓Wac_rep, ↓Wret_rep, slI_rep, isPl_rep, ↓ESC_and, ↓KESC_and, ↓HOLD_and, ↓BRW_and, ↓Wac_and, ↓Wret_and, slI_and, isPl_and, ↓ESC_or, ↓KESC_or, ↓HOLD_or, ↓BRW_or, ↓Wac_or, ↓Wret_or, slI_or, isPl_or, ↓ESC_ife, ↓KESC_ife, ↓HOLD_ife, ↓BRW_ife, ↓Wac_ife, ↓Wret_ife, slI_ife, isPl_ife, ↓ESC_tup, ↓KESC_tup, ↓HOLD_tup, ↓BRW_tup, ↓Wac_tup, ↓Wret_tup, slI_tup, isPl_tup, ↓ESC_lst, ↓KESC_lst, ↓HOLD_lst, ↓BRW_lst, ↓Wac_lst, ↓Wret_lst, slI_lst, isPl_lst, ↓ESC_dct0, ↓KESC_dct0, ↓HOLD_dct0, ↓BRW_dct0, ↓Wac_dct0, ↓Wret_dct0, slI_dct0, isPl_dct0, ↓ESC_dct, ↓KESC_dct, ↓HOLD_dct, ↓BRW_dct, ↓Wac_dct, ↓Wret_dct, slI_dct, isPl_dct, ↓ESC_inG, ↓KESC_inG, ↓HOLD_inG, ↓BRW_inG, ↓Wac_inG, ↓Wret_inG, slI_inG, isPl_inG, ↓ESC_call, ↓KESC_call, ↓HOLD_call, ↓BRW_call, ↓Wac_call, ↓Wret_call, slI_call, isPl_call, ↓ESC_callv, ↓KESC_callv, ↓HOLD_callv, ↓BRW_callv, ↓Wac_callv, ↓Wret_callv, slI_callv, isPl_callv, ↓ESC_mut, ↓KESC_mut, ↓HOLD_mut, ↓BRW_mut, ↓Wac_mut, ↓Wret_mut, slI_mut, isPl_mut, ↓ESC_mutP, ↓KESC_mutP, ↓HOLD_mutP, ↓BRW_mutP, ↓Wac_mutP, ↓Wret_mutP, slI_mutP, isPl_mutP, ↓ESC_comp, ↓KESC_comp, ↓HOLD_comp, ↓BRW_comp, ↓Wac_comp, ↓Wret_comp, slI_comp, isPl_comp, ↓Wac_var, ↓Wac_ix, ↓Wret_ix, slI_non, slI_var, slI_ix, isPl_var, isPl_ix, root_var, root_ix, plain_non, kpl_non, vl_non, isDicD_non, isNon_non, isLstD_non, down_nond, down_nont, down_nons, scalar_non, isiOk_non, ty_non_int, ty_non_str, ty_non_bool, ty_non_list, ty_non_tuple, ty_non_dict, plain_bl, kpl_bl, vl_bl, isDicD_bl, isNon_bl, isLstD_bl, down_bld, down_blt, down_bls, scalar_bl, isiOk_bl, ty_bl_int, ty_bl_str, ty_bl_bool, ty_bl_list, ty_bl_tuple, ty_bl_dict, plain_int, kpl_int, vl_int, isDicD_int, isNon_int, isLstD_int, down_intd, down_intt, down_ints, scalar_int, isiOk_int, ty_int_int, ty_int_str, ty_int_bool, ty_int_list, ty_int_tuple, ty_int_dict, plain_str, kpl_str, vl_str, isDicD_str, isNon_str, isLstD_str, down_strd, down_strt, down_strs, scalar_str, isiOk_str, ty_str_int, ty_str_str, ty_str_bool, ty_str_list, ty_str_tuple, ty_str_dict, plain_fn, kpl_fn, vl_fn, isDicD_fn, isNon_fn, isLstD_fn, down_fnd, down_fnt, down_fns, scalar_fn, ty_fn_int, ty_fn_str, ty_fn_bool, ty_fn_list, ty_fn_tuple, ty_fn_dict, plain_scr, kpl_scr, vl_scr, isDicD_scr, isNon_scr, isLstD_scr, down_scrd, down_scrt, down_scrs, scalar_scr, ty_scr_int, ty_scr_str, ty_scr_bool, ty_scr_list, ty_scr_tuple, ty_scr_dict, plain_tup, kpl_tup, vl_tup, isDicD_tup, isNon_tup, isLstD_tup, down_tupd, down_tupt, down_tups, scalar_tup, isiOk_tup, ty_tup_int, ty_tup_str, ty_tup_bool, ty_tup_list, ty_tup_tuple, ty_tup_dict, plain_lst, kpl_lst, vl_lst, isDicD_lst, isNon_lst, isLstD_lst, down_lstd, down_lstt, down_lsts, scalar_lst, isiOk_lst, ty_lst_int, ty_lst_str, ty_lst_bool, ty_lst_list, ty_lst_tuple, ty_lst_dict, plain_dic, kpl_dic, vl_dic, isDicD_dic, isNon_dic, isLstD_dic, down_dicd, down_dict, down_dics, scalar_dic, ty_dic_int, ty_dic_str, ty_dic_bool, ty_dic_list, ty_dic_tuple, ty_dic_dict, isiOk_dic, plains_nil, plains_cons, scalars_nil, scalars_cons, kid_deep, kid_top, kid_sh, allDeep_nil, allDeep_deep, allDeep_sh, allDeep_top, mkTup_ite, mkLst_ite, newLst_ite, wr_int, wr_str, wr_bl, wr_non, wr_glo, wr_var, wr_dct0, wr_io, wr_ix, wr_sl, wr_op1, wr_op2, wr_opP, wr_cat, wr_rep, wr_and, wr_or, wr_tup, wr_lst, wr_call, wrS_skip, wrS_seq, wrS_set, wrS_setIx, wrS_setP, wrS_expr, wrS_ite, wrS_for_, wrS_whl, wrS_ret, wrS_retn, wr_ife, wr_inG, wr_callv, wr_mut, wr_mutP, wr_compv, wr_compt, wrs_nil, wrs_cons, wrx_def, tgs_v, tgs_t, st_, st_30, st_3030, st_3031, st_31, st_62616c6c, st_62617265, st_626f7468, st_6368656170657374, st_656974686572, st_6d616e79, st_6e656172, st_6f6464, st_70616972696e67, st_726f756e64, st_7369646573, st_74726565, vl_mk, plain_mk, kplain_mk, scalar_mk, isNon_mk, deq_txmk, a2_eqmk, a2_nemk, a2_nemkt, plain_end, vl_end, plains_end, shps_end, plain_view, $ls,*])
def is2 (m : Mk) : Bool := match m with
  | some [_, _] => true
  | _ => false
theorem C_is_two {n : Nat} {m : Mk} : CL (call tab (n + 1)) g_is_two [(mD m, .deep)] fun r os => r = (.bl (is2 m), .deep) := by
  refine cl_is_two ?_
  unfold s_is_two
  cases m with
  | none => simp! [mD]; rfl
  | some l =>
    simp! [mD]
    match l with
    | [] => rfl
    | [_] => rfl
    | [_, _] => rfl
    | _ :: _ :: _ :: _ => simp [is2]; omega
def pairOK (s0 s1 : Nat) (e : End) : Bool := match e.2.2 with
  | some [m0, m1] => !decide (m0 = s0) && (!decide ([s1, m1] = [48, 48]) && !(e.2.1 && decide (s1 = m1)))
  | _ => false
def pairW (o : Mk) (es : List End) : Bool := match o with
  | some [s0, s1] => es.all (pairOK s0 s1) && (decide ((es.filter fun e => e.2.1).length = 1) || (decide ((es.filter fun e => e.2.1).length = 0) && decide (s1 = 48)))
  | _ => false
theorem is2_iff {m : Mk} : is2 m = true ↔ ∃ a b, m = some [a, b] := by
  unfold is2
  split
  · simp
  · rename_i h
    refine ⟨fun z => by simp at z, fun ⟨a, b, e⟩ => absurd e (h a b)⟩
theorem C_says_pairing {n : Nat} {a b : Int} {o : Mk} {es : List End} : CL (call tab (n + 2)) g_says_pairing [(viewD a b o es, .sh)] fun r os => r = (.bl (pairW o es), .deep) := by
  refine cl_says_pairing ?_
  unfold s_says_pairing viewD
  simp! []
  refine cl C_is_two ?_
  rintro _ _ rfl
  simp! []
  refine BR_b (fun h => ?_) (fun h => ?_)
  · simp! []
    unfold pairW
    split
    · simp [is2] at h
    · rfl
  · have h : is2 o = true := by simpa using h
    obtain ⟨s0, s1, rfl⟩ := is2_iff.mp h
    simp! [mD_some]
    refine FL_ix (fun k E => (es.take k).all (pairOK s0 s1) = true ∧ ∃ o1 o2 o3, E = [some (.tup [.int a, .int b, tx [s0, s1], .lst (es.map endD)], .sh), some (tx [s0, s1], .deep), some (.int (((es.take k).filter fun e => e.2.1).length : Nat), .deep), o1, o2, o3]) ⟨rfl, none, none, none, rfl⟩ ?_ ?_
    · rintro k _ hk ⟨ha, o1, o2, o3, rfl⟩
      have hk : k < es.length := by simpa using hk
      have bad : pairOK s0 s1 es[k] = false → pairW (some [s0, s1]) es = false := fun z => by
        unfold pairW
        simp only
        rw [show es.all (pairOK s0 s1) = false from List.all_eq_false.mpr ⟨es[k], List.getElem_mem hk, by rw [z]; simp⟩]
        rfl
      simp! [List.getElem_map, endD]
      refine cl C_is_two ?_
      rintro _ _ rfl
      simp! []
      refine BR_b (fun h' => ?_) (fun h' => ?_)
      · simp! []
        rw [bad]
        unfold pairOK
        split
        · rename_i e; rw [e] at h'; simp [is2] at h'
        · rfl
      · have h' : is2 es[k].2.2 = true := by simpa using h'
        obtain ⟨m0, m1, hm⟩ := is2_iff.mp h'
        rw [hm]
        simp! [mD_some, List.cons.injEq]
        refine BR_d (fun h1 => ?_) (fun h1 => ?_)
        · simp! []
          rw [bad]
          unfold pairOK
          rw [hm]
          simp [h1]
        · have fin : ∀ E2 : En, pairOK s0 s1 es[k] = true → (∃ o1 o2 o3, E2 = [some (.tup [.int a, .int b, tx [s0, s1], .lst (es.map endD)], .sh), some (tx [s0, s1], .deep), some (.int (((es.take (k + 1)).filter fun e => e.2.1).length : Nat), .deep), o1, o2, o3]) → (es.take (k + 1)).all (pairOK s0 s1) = true ∧ ∃ o1 o2 o3, E2 = [some (.tup [.int a, .int b, tx [s0, s1], .lst (es.map endD)], .sh), some (tx [s0, s1], .deep), some (.int (((es.take (k + 1)).filter fun e => e.2.1).length : Nat), .deep), o1, o2, o3] := fun E2 h1 h2 => ⟨by rw [take_succ' hk, List.all_append, ha]; simpa using h1, h2⟩
          simp! [mD_some]
          refine BR_d (fun h2 => ?_) (fun h2 => ?_)
          · simp! []
            rw [bad]
            unfold pairOK
            rw [hm]
            simp [h2]
          · simp! [mD_some]
            have hp : pairOK s0 s1 es[k] = !(es[k].2.1 && decide (s1 = m1)) := by
              unfold pairOK
              rw [hm]
              simp only
              rw [decide_eq_false h1, decide_eq_false h2]
              rfl
            cases ht : es[k].2.1 with
            | true =>
              simp! [mD_some, List.cons.injEq]
              refine BR_d (fun h3 => ?_) (fun h3 => ?_)
              · simp! []
                rw [bad (by rw [hp, ht]; simp [h3])]
              · simp! []
                have hf : (((es.take (k + 1)).filter fun e => e.2.1).length : Int) = ((es.take k).filter fun e => e.2.1).length + 1 := by
                  rw [take_succ' hk, List.filter_append, List.length_append]
                  simp [ht]
                refine fin _ (by rw [hp, ht]; simp [h3]) ?_
                rw [hf]
                exact ⟨_, _, _, rfl⟩
            | false =>
              simp! []
              have hf : (((es.take (k + 1)).filter fun e => e.2.1).length : Int) = ((es.take k).filter fun e => e.2.1).length + 0 := by
                rw [take_succ' hk, List.filter_append, List.length_append]
                simp [ht]
              refine fin _ (by rw [hp, ht]; simp) ?_
              rw [hf]
              exact ⟨_, _, _, rfl⟩
    · rintro _ ⟨ha, o1, o2, o3, rfl⟩
      rw [List.length_map, List.take_length] at ha
      simp only [List.length_map, List.take_length]
      simp! []
      have e : pairW (some [s0, s1]) es = (decide ((es.filter fun e => e.2.1).length = 1) || (decide ((es.filter fun e => e.2.1).length = 0) && decide (s1 = 48))) := by
        unfold pairW
        simp only
        rw [ha]
        rfl
      rw [e]
      refine BR_d (fun h1 => ?_) (fun h1 => ?_)
      · simp! []
        have h1 : (es.filter fun e => e.2.1).length = 1 := by omega
        rw [h1]
        rfl
      · simp! []
        refine BR_d (fun h2 => ?_) (fun h2 => ?_)
        · simp! [List.cons.injEq]
          have h3 : (es.filter fun e => e.2.1).length = 0 := by omega
          rw [h3]
          simp
        · simp! []
          have h3 : ¬(es.filter fun e => e.2.1).length = 0 := by omega
          have h4 : ¬(es.filter fun e => e.2.1).length = 1 := by omega
          rw [decide_eq_false h3, decide_eq_false h4]
          rfl
theorem C_says_sg {n : Nat} {a b : Int} {o : Mk} {es : List End} : CL (call tab (n + 3)) g_says_k39 [(.tup [tx [115, 105, 100, 101, 115]], .deep), (viewD a b o es, .sh)] fun r os => r = (.bl (sidesV o es), .deep) := by
  refine cl_says_k39 ?_
  unfold s_says_k39
  simp! [List.cons.injEq, Nat.reduceEqDiff, dput_eq]
  refine cl C_says_sides ?_
  rintro _ _ rfl
  simp! []
theorem C_says_pr {n : Nat} {a b : Int} {o : Mk} {es : List End} : CL (call tab (n + 3)) g_says_k39 [(.tup [tx [112, 97, 105, 114, 105, 110, 103]], .deep), (viewD a b o es, .sh)] fun r os => r = (.bl (pairW o es), .deep) := by
  refine cl_says_k39 ?_
  unfold s_says_k39
  simp! [List.cons.injEq, Nat.reduceEqDiff, dput_eq]
  refine cl C_says_pairing ?_
  rintro _ _ rfl
  simp! []

theorem C_said {n : Nat} {w : Ow} {s : List Nat} {res : Bool} {a b : Int} {o : Mk} {es : List End} (h : CL (call tab (n + 3)) g_says_k39 [(.tup [tx s], .deep), (viewD a b o es, .sh)] fun r os => r = (.bl res, .deep)) :
    CL (call tab (n + 4)) g_law_said [(.tup [tx s], .deep), (viewD a b o es, w)] fun r os => r = (.bl res, .deep) := by
  refine cl_law_said ?_
  unfold s_law_said
  have hv : ∀ a b o es, viewD a b o es = .tup [.int a, .int b, mD o, .lst (es.map endD)] := fun _ _ _ _ => rfl
  simp! [hv]
  refine cl h ?_
  rintro _ _ rfl
  dsimp! []
  refine EX_ifF ?_ ?_
  · simp! [← hv, view_eq]
  · simp! []
/-- the other sign's mark -/
def flipM (o : Mk) : Mk := if o = some [48] then some [49] else some [48]
def MkOK (m : Mk) : Prop := ∀ l, m = some l → isBits l
def besOK (s0 s1 : Nat) (e : End) : Bool := pairOK s0 s1 e

local macro_rules | `(tactic| simp! [$ls,*]) => `(tactic| simp (config := {dsimp := false, failIfUnchanged := false}) only [↓W_seq, ↓W_ite, ↓W_op1, ↓W_op2, ↓W_ix, ↓W_var, ↓W_int, ↓W_str, ↓W_bl, ↓W_non, ↓W_glo, ↓W_dct0, ↓W_inG, ↓W_mut, ↓W_nil, ↓W_cons, ↓W_tup, ↓W_lst, ↓W_and, ↓W_or, ↓W_ife, ↓W_list, ↓W_cat, ↓W_sl, ↓W_call, ↓W_anil, ↓W_aio, ↓W_gnil, ↓W_ginl, ↓W_ginr, ↓W_skip, ↓W_setv, ↓W_setT, ↓W_expr, ↓W_retn, ↓W_retv, ↓W_inil, ↓W_icons, ↓W_for, ↓W_rng, ↓W_of, ↓W_enu, ↓W_keys, ↓W_zip, ↓W_rev, ↓W_comp, ↓W_setIx, CHG_nil, GS_z, GS_s, OP_some, OP_ite, OP_map, PUT_def, BR_t, BR_f, BO_b, PL_t, PL_f, ↓ESC_var, ↓ESC_ix, ↓KESC_var, ↓KESC_ix, ↓HOLD_var, ↓HOLD_ix, ↓BRW_var, ↓BRW_ix, scat_ni, scat_il, scat_inr, List.tail_cons, List.set_cons_zero, List.set_cons_succ, shS_z, shS_s, shD_z, shD_s, item_lst', item_tup', item_scr', atI_lit, a2_add, a2_sub, a2_mul, a2_fdiv, a2_mod, a2_pow, a2_lt, a2_le, a2_gt, a2_ge, a2_eqi, a2_nei, a2_max, a2_min, a2_inl, a2_int, a2_nil, a2_nit, a2_ind, a2_nid, a1_not, a1_neg, a1_len, a1_int, a1_intb, a1_str, a1_abs, a1_isN, a1_isNN, a1_isi, len_lst, len_tup, len_scr, len_dic, setD_l, setD_d, mut_app, mut_ext, mut_ins, ixN_lit, it_of, it_oft, it_r1, it_r2, it_r3, it_enu, it_zip, it_rev, it_keys, it_keysl, it_keyst, it_keystx, ↓W_opr, rev_l, rev_map, zip0_map, ds_nil, ds_cons, listD_l, listD_t, bind_t, binds_nil, binds_cons, bind_v, List.getElem?_cons_zero, List.getElem?_cons_succ, List.length_cons, List.length_nil, List.contains_nil, List.contains_cons, List.nil_append, List.append_nil, List.cons_append, Bool.and_true, Bool.true_and, Bool.and_false, Bool.false_and, Bool.or_true, Bool.true_or, Bool.or_false, Bool.false_or, Bool.not_true, Bool.not_false, decide_true, decide_false, if_true, if_false, true_and, and_true, ne_eq, not_false_eq_true, not_true_eq_false, false_and, and_false, Option.some.injEq, Option.map_some, reduceCtorEq, reduceIte, Nat.reduceAdd, Nat.reduceLT, Nat.reduceEqDiff, Nat.reduceBEq, Int.reduceLT, Int.reduceLE, Int.reduceEq, Int.reduceAdd, Int.reduceSub, Int.reduceMul, Int.reduceNeg, Int.reducePow, Nat.reducePow, Bool.false_eq_true, Int.reduceToNat, or_true, true_or, or_false, false_or, natAbs_lit, a2_eqb, a2_neb, cast_lit, ↓W_dct, ↓W_callv, fnOf_fn, pairUp_nil, pairUp_cons, keysOk_eq, kdist_nil, kdist_cons, dhas_nil, dhas_cons, keq_int, keq_tx, keyOk_int, keyOk_tx, dget_nil, dget_cons, vals_nil, vals_cons, item_dic, set_dn, set_tx, set_int, ↓newLst_deep, plainsApp, app_map, a1_intt, intT0, intT1, a1_sum, a1_sumd, a2_count, dn_int, plains_dn, scalars_dn, shps_dn, a2_eqld, a2_neld, a1_isBt, a1_isBf, a1_isBn, a1_isBi, a1_isBs, a1_isBl, W_FLnil, W_FLcons, List.any_cons, List.any_nil, a2_eql0, a2_nel0, shps_tx, shps_ints, isEmpty_map, sIx_n, sIx_s, slD_l, slD_t, drop_map, take_map, a2_eqlt, a2_nelt, a2_eqli, a2_neli, Bool.and_eq_true, decide_eq_true_eq, filt_true, atI_map, catD_l, eq_self, true_implies, implies_true, line_def, plains_tx, plains_ints, scalars_tx, scalars_ints, inB_iff, rng_length, Nat.reduceLeDiff, and_self, Nat.reduceMul, List.length_map, List.forall_mem_cons, plain_tx, kplain_tx, scalar_tx, vl_tx, isNon_tx, isDicD_tx, isiOk_tx, ty_tx_str, ty_tx_int, ty_tx_bool, ty_tx_list, ty_tx_tuple, ty_tx_dict, len_tx, item_tx, a2_addt, a2_eqt, a2_net, deq_tx, a2_joine, a2_mult, it_tx, slD_tx, a2_ins, a2_nins, wipes_nil, wipes_cons, back_nil, back_cons, KP_n, KP_d, KP_t, KP_h, KP_s, keepNil, keepCons, shv_d, getD_z, getD_s, Bool.and_self, List.map_cons, List.map_nil, ↓ESC_int, ↓KESC_int, ↓HOLD_int, ↓BRW_int, ↓Wac_int, ↓Wret_int, slI_int, isPl_int, ↓ESC_str, ↓KESC_str, ↓HOLD_str, ↓BRW_str, ↓Wac_str, ↓Wret_str, slI_str, isPl_str, ↓ESC_bl, ↓KESC_bl, ↓HOLD_bl, ↓BRW_bl, ↓Wac_bl, ↓Wret_bl, slI_bl, isPl_bl, ↓ESC_non, ↓KESC_non, ↓HOLD_non, ↓BRW_non, ↓Wac_non, ↓Wret_non, isPl_non, ↓ESC_glo, ↓KESC_glo, ↓HOLD_glo, ↓BRW_glo, ↓Wac_glo, ↓Wret_glo, slI_glo, isPl_glo, ↓ESC_io, ↓KESC_io, ↓HOLD_io, ↓BRW_io, ↓Wret_io, slI_io, isPl_io, ↓ESC_sl, ↓KESC_sl, ↓HOLD_sl, ↓BRW_sl, ↓Wac_sl, ↓Wret_sl, slI_sl, isPl_sl, ↓ESC_op1, ↓KESC_op1, ↓HOLD_op1, ↓BRW_op1, ↓Wac_op1, ↓Wret_op1, slI_op1, isPl_op1, ↓ESC_op2, ↓KESC_op2, ↓HOLD_op2, ↓BRW_op2, ↓Wac_op2, ↓Wret_op2, slI_op2, isPl_op2, ↓ESC_opP, ↓KESC_opP, ↓HOLD_opP, ↓BRW_opP, ↓Wac_opP, ↓Wret_opP, slI_opP, isPl_opP, ↓ESC_cat, ↓KESC_cat, ↓HOLD_cat, ↓BRW_cat, ↓Wac_cat, ↓Wret_cat, slI_cat, isPl_cat, ↓ESC_rep, ↓KESC_rep, ↓HOLD_rep, ↓BRW_rep, ↓Wac_rep, ↓Wret_rep, slI_rep, isPl_rep, ↓ESC_and, ↓KESC_and, ↓HOLD_and, ↓BRW_and, ↓Wac_and, ↓Wret_and, slI_and, isPl_and, ↓ESC_or, ↓KESC_or, ↓HOLD_or, ↓BRW_or, ↓Wac_or, ↓Wret_or, slI_or, isPl_or, ↓ESC_ife, ↓KESC_ife, ↓HOLD_ife, ↓BRW_ife, ↓Wac_ife, ↓Wret_ife, slI_ife, isPl_ife, ↓ESC_tup, ↓KESC_tup, ↓HOLD_tup, ↓BRW_tup, ↓Wac_tup, ↓Wret_tup, slI_tup, isPl_tup, ↓ESC_lst, ↓KESC_lst, ↓HOLD_lst, ↓BRW_lst, ↓Wac_lst, ↓Wret_lst, slI_lst, isPl_lst, ↓ESC_dct0, ↓KESC_dct0, ↓HOLD_dct0, ↓BRW_dct0, ↓Wac_dct0, ↓Wret_dct0, slI_dct0, isPl_dct0, ↓ESC_dct, ↓KESC_dct, ↓HOLD_dct, ↓BRW_dct, ↓Wac_dct, ↓Wret_dct, slI_dct, isPl_dct, ↓ESC_inG, ↓KESC_inG, ↓HOLD_inG, ↓BRW_inG, ↓Wac_inG, ↓Wret_inG, slI_inG, isPl_inG, ↓ESC_call, ↓KESC_call, ↓HOLD_call, ↓BRW_call, ↓Wac_call, ↓Wret_call, slI_call, isPl_call, ↓ESC_callv, ↓KESC_callv, ↓HOLD_callv, ↓BRW_callv, ↓Wac_callv, ↓Wret_callv, slI_callv, isPl_callv, ↓ESC_mut, ↓KESC_mut, ↓HOLD_mut, ↓BRW_mut, ↓Wac_mut, ↓Wret_mut, slI_mut, isPl_mut, ↓ESC_mutP, ↓KESC_mutP, ↓HOLD_mutP, ↓BRW_mutP, ↓Wac_mutP, ↓Wret_mutP, slI_mutP, isPl_mutP, ↓ESC_comp, ↓KESC_comp, ↓HOLD_comp, ↓BRW_comp, ↓Wac_comp, ↓Wret_comp, slI_comp, isPl_comp, ↓Wac_var, ↓Wac_ix, ↓Wret_ix, slI_non, slI_var, slI_ix, isPl_var, isPl_ix, root_var, root_ix, plain_non, kpl_non, vl_non, isDicD_non, isNon_non, isLstD_non, down_nond, down_nont, down_nons, scalar_non, isiOk_non, ty_non_int, ty_non_str, ty_non_bool, ty_non_list, ty_non_tuple, ty_non_dict, plain_bl, kpl_bl, vl_bl, isDicD_bl, isNon_bl, isLstD_bl, down_bld, down_blt, down_bls, scalar_bl, isiOk_bl, ty_bl_int, ty_bl_str, ty_bl_bool, ty_bl_list, ty_bl_tuple, ty_bl_dict, plain_int, kpl_int, vl_int, isDicD_int, isNon_int, isLstD_int, down_intd, down_intt, down_ints, scalar_int, isiOk_int, ty_int_int, ty_int_str, ty_int_bool, ty_int_list, ty_int_tuple, ty_int_dict, plain_str, kpl_str, vl_str, isDicD_str, isNon_str, isLstD_str, down_strd, down_strt, down_strs, scalar_str, isiOk_str, ty_str_int, ty_str_str, ty_str_bool, ty_str_list, ty_str_tuple, ty_str_dict, plain_fn, kpl_fn, vl_fn, isDicD_fn, isNon_fn, isLstD_fn, down_fnd, down_fnt, down_fns, scalar_fn, ty_fn_int, ty_fn_str, ty_fn_bool, ty_fn_list, ty_fn_tuple, ty_fn_dict, plain_scr, kpl_scr, vl_scr, isDicD_scr, isNon_scr, isLstD_scr, down_scrd, down_scrt, down_scrs, scalar_scr, ty_scr_int, ty_scr_str, ty_scr_bool, ty_scr_list, ty_scr_tuple, ty_scr_dict, plain_tup, kpl_tup, vl_tup, isDicD_tup, isNon_tup, isLstD_tup, down_tupd, down_tupt, down_tups, scalar_tup, isiOk_tup, ty_tup_int, ty_tup_str, ty_tup_bool, ty_tup_list, ty_tup_tuple, ty_tup_dict, plain_lst, kpl_lst, vl_lst, isDicD_lst, isNon_lst, isLstD_lst, down_lstd, down_lstt, down_lsts, scalar_lst, isiOk_lst, ty_lst_int, ty_lst_str, ty_lst_bool, ty_lst_list, ty_lst_tuple, ty_lst_dict, plain_dic, kpl_dic, vl_dic, isDicD_dic, isNon_dic, isLstD_dic, down_dicd, down_dict, down_dics, scalar_dic, ty_dic_int, ty_dic_str, ty_dic_bool, ty_dic_list, ty_dic_tuple, ty_dic_dict, isiOk_dic, plains_nil, plains_cons, scalars_nil, scalars_cons, kid_deep, kid_top, kid_sh, allDeep_nil, allDeep_deep, allDeep_sh, allDeep_top, mkTup_ite, mkLst_ite, newLst_ite, wr_int, wr_str, wr_bl, wr_non, wr_glo, wr_var, wr_dct0, wr_io, wr_ix, wr_sl, wr_op1, wr_op2, wr_opP, wr_cat, wr_rep, wr_and, wr_or, wr_tup, wr_lst, wr_call, wrS_skip, wrS_seq, wrS_set, wrS_setIx, wrS_setP, wrS_expr, wrS_ite, wrS_for_, wrS_whl, wrS_ret, wrS_retn, wr_ife, wr_inG, wr_callv, wr_mut, wr_mutP, wr_compv, wr_compt, wrs_nil, wrs_cons, wrx_def, tgs_v, tgs_t, st_, st_30, st_3030, st_3031, st_31, st_62616c6c, st_62617265, st_626f7468, st_6368656170657374, st_656974686572, st_6d616e79, st_6e656172, st_6f6464, st_70616972696e67, st_726f756e64, st_7369646573, st_74726565, $ls,*])
local macro_rules | `(tactic| dsimp! [$ls,*]) => `(tactic| simp (config := {dsimp := false, failIfUnchanged := false}) only [↓W_seq, ↓W_op1, ↓W_op2, ↓W_ix, ↓W_var, ↓W_int, ↓W_str, ↓W_bl, ↓W_non, ↓W_glo, ↓W_dct0, ↓W_inG, ↓W_mut, ↓W_nil, ↓W_cons, ↓W_tup, ↓W_lst, ↓W_and, ↓W_or, ↓W_ife, ↓W_list, ↓W_cat, ↓W_sl, ↓W_call, ↓W_anil, ↓W_aio, ↓W_gnil, ↓W_ginl, ↓W_ginr, ↓W_skip, ↓W_setv, ↓W_setT, ↓W_expr, ↓W_retn, ↓W_retv, ↓W_inil, ↓W_icons, ↓W_for, ↓W_rng, ↓W_of, ↓W_enu, ↓W_keys, ↓W_zip, ↓W_rev, ↓W_comp, ↓W_setIx, CHG_nil, GS_z, GS_s, OP_some, OP_ite, OP_map, PUT_def, BR_t, BR_f, BO_b, PL_t, PL_f, ↓ESC_var, ↓ESC_ix, ↓KESC_var, ↓KESC_ix, ↓HOLD_var, ↓HOLD_ix, ↓BRW_var, ↓BRW_ix, scat_ni, scat_il, scat_inr, List.tail_cons, List.set_cons_zero, List.set_cons_succ, shS_z, shS_s, shD_z, shD_s, item_lst', item_tup', item_scr', atI_lit, a2_add, a2_sub, a2_mul, a2_fdiv, a2_mod, a2_pow, a2_lt, a2_le, a2_gt, a2_ge, a2_eqi, a2_nei, a2_max, a2_min, a2_inl, a2_int, a2_nil, a2_nit, a2_ind, a2_nid, a1_not, a1_neg, a1_len, a1_int, a1_intb, a1_str, a1_abs, a1_isN, a1_isNN, a1_isi, len_lst, len_tup, len_scr, len_dic, setD_l, setD_d, mut_app, mut_ext, mut_ins, ixN_lit, it_of, it_oft, it_r1, it_r2, it_r3, it_enu, it_zip, it_rev, it_keys, it_keysl, it_keyst, it_keystx, ↓W_opr, rev_l, rev_map, zip0_map, ds_nil, ds_cons, listD_l, listD_t, bind_t, binds_nil, binds_cons, bind_v, List.getElem?_cons_zero, List.getElem?_cons_succ, List.length_cons, List.length_nil, List.contains_nil, List.contains_cons, List.nil_append, List.append_nil, List.cons_append, Bool.and_true, Bool.true_and, Bool.and_false, Bool.false_and, Bool.or_true, Bool.true_or, Bool.or_false, Bool.false_or, Bool.not_true, Bool.not_false, decide_true, decide_false, if_true, if_false, true_and, and_true, ne_eq, not_false_eq_true, not_true_eq_false, false_and, and_false, Option.some.injEq, Option.map_some, reduceCtorEq, reduceIte, Nat.reduceAdd, Nat.reduceLT, Nat.reduceEqDiff, Nat.reduceBEq, Int.reduceLT, Int.reduceLE, Int.reduceEq, Int.reduceAdd, Int.reduceSub, Int.reduceMul, Int.reduceNeg, Int.reducePow, Nat.reducePow, Bool.false_eq_true, Int.reduceToNat, or_true, true_or, or_false, false_or, natAbs_lit, a2_eqb, a2_neb, cast_lit, ↓W_dct, ↓W_callv, fnOf_fn, pairUp_nil, pairUp_cons, keysOk_eq, kdist_nil, kdist_cons, dhas_nil, dhas_cons, keq_int, keq_tx, keyOk_int, keyOk_tx, dget_nil, dget_cons, vals_nil, vals_cons, item_dic, set_dn, set_tx, set_int, ↓newLst_deep, plainsApp, app_map, a1_intt, intT0, intT1, a1_sum, a1_sumd, a2_count, dn_int, plains_dn, scalars_dn, shps_dn, a2_eqld, a2_neld, a1_isBt, a1_isBf, a1_isBn, a1_isBi, a1_isBs, a1_isBl, W_FLnil, W_FLcons, List.any_cons, List.any_nil, a2_eql0, a2_nel0, shps_tx, shps_ints, isEmpty_map, sIx_n, sIx_s, slD_l, slD_t, drop_map, take_map, a2_eqlt, a2_nelt, a2_eqli, a2_neli, Bool.and_eq_true, decide_eq_true_eq, filt_true, atI_map, catD_l, eq_self, true_implies, implies_true, line_def, plains_tx, plains_ints, scalars_tx, scalars_ints, inB_iff, rng_length, Nat.reduceLeDiff, and_self, Nat.reduceMul, List.length_map, List.forall_mem_cons, plain_tx, kplain_tx, scalar_tx, vl_tx, isNon_tx, isDicD_tx, isiOk_tx, ty_tx_str, ty_tx_int, ty_tx_bool, ty_tx_list, ty_tx_tuple, ty_tx_dict, len_tx, item_tx, a2_addt, a2_eqt, a2_net, deq_tx, a2_joine, a2_mult, it_tx, slD_tx, a2_ins, a2_nins, wipes_nil, wipes_cons, back_nil, back_cons, KP_n, KP_d, KP_t, KP_h, KP_s, keepNil, keepCons, shv_d, getD_z, getD_s, Bool.and_self, List.map_cons, List.map_nil, ↓ESC_int, ↓KESC_int, ↓HOLD_int, ↓BRW_int, ↓Wac_int, ↓Wret_int, slI_int, isPl_int, ↓ESC_str, ↓KESC_str, ↓HOLD_str, ↓BRW_str, ↓Wac_str, ↓Wret_str, slI_str, isPl_str, ↓ESC_bl, ↓KESC_bl, ↓HOLD_bl, ↓BRW_bl, ↓Wac_bl, ↓Wret_bl, slI_bl, isPl_bl, ↓ESC_non, ↓KESC_non, ↓HOLD_non, ↓BRW_non, ↓Wac_non, ↓Wret_non, isPl_non, ↓ESC_glo, ↓KESC_glo, ↓HOLD_glo, ↓BRW_glo, ↓Wac_glo, ↓Wret_glo, slI_glo, isPl_glo, ↓ESC_io, ↓KESC_io, ↓HOLD_io, ↓BRW_io, ↓Wret_io, slI_io, isPl_io, ↓ESC_sl, ↓KESC_sl, ↓HOLD_sl, ↓BRW_sl, ↓Wac_sl, ↓Wret_sl, slI_sl, isPl_sl, ↓ESC_op1, ↓KESC_op1, ↓HOLD_op1, ↓BRW_op1, ↓Wac_op1, ↓Wret_op1, slI_op1, isPl_op1, ↓ESC_op2, ↓KESC_op2, ↓HOLD_op2, ↓BRW_op2, ↓Wac_op2, ↓Wret_op2, slI_op2, isPl_op2, ↓ESC_opP, ↓KESC_opP, ↓HOLD_opP, ↓BRW_opP, ↓Wac_opP, ↓Wret_opP, slI_opP, isPl_opP, ↓ESC_cat, ↓KESC_cat, ↓HOLD_cat, ↓BRW_cat, ↓Wac_cat, ↓Wret_cat, slI_cat, isPl_cat, ↓ESC_rep, ↓KESC_rep, ↓HOLD_rep, ↓BRW_rep, ↓Wac_rep, ↓Wret_rep, slI_rep, isPl_rep, ↓ESC_and, ↓KESC_and, ↓HOLD_and, ↓BRW_and, ↓Wac_and, ↓Wret_and, slI_and, isPl_and, ↓ESC_or, ↓KESC_or, ↓HOLD_or, ↓BRW_or, ↓Wac_or, ↓Wret_or, slI_or, isPl_or, ↓ESC_ife, ↓KESC_ife, ↓HOLD_ife, ↓BRW_ife, ↓Wac_ife, ↓Wret_ife, slI_ife, isPl_ife, ↓ESC_tup, ↓KESC_tup, ↓HOLD_tup, ↓BRW_tup, ↓Wac_tup, ↓Wret_tup, slI_tup, isPl_tup, ↓ESC_lst, ↓KESC_lst, ↓HOLD_lst, ↓BRW_lst, ↓Wac_lst, ↓Wret_lst, slI_lst, isPl_lst, ↓ESC_dct0, ↓KESC_dct0, ↓HOLD_dct0, ↓BRW_dct0, ↓Wac_dct0, ↓Wret_dct0, slI_dct0, isPl_dct0, ↓ESC_dct, ↓KESC_dct, ↓HOLD_dct, ↓BRW_dct, ↓Wac_dct, ↓Wret_dct, slI_dct, isPl_dct, ↓ESC_inG, ↓KESC_inG, ↓HOLD_inG, ↓BRW_inG, ↓Wac_inG, ↓Wret_inG, slI_inG, isPl_inG, ↓ESC_call, ↓KESC_call, ↓HOLD_call, ↓BRW_call, ↓Wac_call, ↓Wret_call, slI_call, isPl_call, ↓ESC_callv, ↓KESC_callv, ↓HOLD_callv, ↓BRW_callv, ↓Wac_callv, ↓Wret_callv, slI_callv, isPl_callv, ↓ESC_mut, ↓KESC_mut, ↓HOLD_mut, ↓BRW_mut, ↓Wac_mut, ↓Wret_mut, slI_mut, isPl_mut, ↓ESC_mutP, ↓KESC_mutP, ↓HOLD_mutP, ↓BRW_mutP, ↓Wac_mutP, ↓Wret_mutP, slI_mutP, isPl_mutP, ↓ESC_comp, ↓KESC_comp, ↓HOLD_comp, ↓BRW_comp, ↓Wac_comp, ↓Wret_comp, slI_comp, isPl_comp, ↓Wac_var, ↓Wac_ix, ↓Wret_ix, slI_non, slI_var, slI_ix, isPl_var, isPl_ix, root_var, root_ix, plain_non, kpl_non, vl_non, isDicD_non, isNon_non, isLstD_non, down_nond, down_nont, down_nons, scalar_non, isiOk_non, ty_non_int, ty_non_str, ty_non_bool, ty_non_list, ty_non_tuple, ty_non_dict, plain_bl, kpl_bl, vl_bl, isDicD_bl, isNon_bl, isLstD_bl, down_bld, down_blt, down_bls, scalar_bl, isiOk_bl, ty_bl_int, ty_bl_str, ty_bl_bool, ty_bl_list, ty_bl_tuple, ty_bl_dict, plain_int, kpl_int, vl_int, isDicD_int, isNon_int, isLstD_int, down_intd, down_intt, down_ints, scalar_int, isiOk_int, ty_int_int, ty_int_str, ty_int_bool, ty_int_list, ty_int_tuple, ty_int_dict, plain_str, kpl_str, vl_str, isDicD_str, isNon_str, isLstD_str, down_strd, down_strt, down_strs, scalar_str, isiOk_str, ty_str_int, ty_str_str, ty_str_bool, ty_str_list, ty_str_tuple, ty_str_dict, plain_fn, kpl_fn, vl_fn, isDicD_fn, isNon_fn, isLstD_fn, down_fnd, down_fnt, down_fns, scalar_fn, ty_fn_int, ty_fn_str, ty_fn_bool, ty_fn_list, ty_fn_tuple, ty_fn_dict, plain_scr, kpl_scr, vl_scr, isDicD_scr, isNon_scr, isLstD_scr, down_scrd, down_scrt, down_scrs, scalar_scr, ty_scr_int, ty_scr_str, ty_scr_bool, ty_scr_list, ty_scr_tuple, ty_scr_dict, plain_tup, kpl_tup, vl_tup, isDicD_tup, isNon_tup, isLstD_tup, down_tupd, down_tupt, down_tups, scalar_tup, isiOk_tup, ty_tup_int, ty_tup_str, ty_tup_bool, ty_tup_list, ty_tup_tuple, ty_tup_dict, plain_lst, kpl_lst, vl_lst, isDicD_lst, isNon_lst, isLstD_lst, down_lstd, down_lstt, down_lsts, scalar_lst, isiOk_lst, ty_lst_int, ty_lst_str, ty_lst_bool, ty_lst_list, ty_lst_tuple, ty_lst_dict, plain_dic, kpl_dic, vl_dic, isDicD_dic, isNon_dic, isLstD_dic, down_dicd, down_dict, down_dics, scalar_dic, ty_dic_int, ty_dic_str, ty_dic_bool, ty_dic_list, ty_dic_tuple, ty_dic_dict, isiOk_dic, plains_nil, plains_cons, scalars_nil, scalars_cons, kid_deep, kid_top, kid_sh, allDeep_nil, allDeep_deep, allDeep_sh, allDeep_top, mkTup_ite, mkLst_ite, newLst_ite, wr_int, wr_str, wr_bl, wr_non, wr_glo, wr_var, wr_dct0, wr_io, wr_ix, wr_sl, wr_op1, wr_op2, wr_opP, wr_cat, wr_rep, wr_and, wr_or, wr_tup, wr_lst, wr_call, wrS_skip, wrS_seq, wrS_set, wrS_setIx, wrS_setP, wrS_expr, wrS_ite, wrS_for_, wrS_whl, wrS_ret, wrS_retn, wr_ife, wr_inG, wr_callv, wr_mut, wr_mutP, wr_compv, wr_compt, wrs_nil, wrs_cons, wrx_def, tgs_v, tgs_t, st_, st_30, st_3030, st_3031, st_31, st_62616c6c, st_62617265, st_626f7468, st_6368656170657374, st_656974686572, st_6d616e79, st_6e656172, st_6f6464, st_70616972696e67, st_726f756e64, st_7369646573, st_74726565, $ls,*])
theorem str0 : D.str (Str.ofString (toString (0 : Int))) = tx [48] := congrArg D.str (by decide +kernel)
theorem str1 : D.str (Str.ofString (toString (1 : Int))) = tx [49] := congrArg D.str (by decide +kernel)
theorem MkOK.some {l} (h : isBits l) : MkOK (some l) := fun _ e => by cases e; exact h
theorem MkOK.none : MkOK none := fun _ e => by cases e
local macro_rules | `(tactic| simp! [$ls,*]) => `(tactic| simp (config := {dsimp := false, failIfUnchanged := false}) only [↓W_seq, ↓W_ite, ↓W_op1, ↓W_op2, ↓W_ix, ↓W_var, ↓W_int, ↓W_str, ↓W_bl, ↓W_non, ↓W_glo, ↓W_dct0, ↓W_inG, ↓W_mut, ↓W_nil, ↓W_cons, ↓W_tup, ↓W_lst, ↓W_and, ↓W_or, ↓W_ife, ↓W_list, ↓W_cat, ↓W_sl, ↓W_call, ↓W_anil, ↓W_aio, ↓W_gnil, ↓W_ginl, ↓W_ginr, ↓W_skip, ↓W_setv, ↓W_setT, ↓W_expr, ↓W_retn, ↓W_retv, ↓W_inil, ↓W_icons, ↓W_for, ↓W_rng, ↓W_of, ↓W_enu, ↓W_keys, ↓W_zip, ↓W_rev, ↓W_comp, ↓W_setIx, CHG_nil, GS_z, GS_s, OP_some, OP_ite, OP_map, PUT_def, BR_t, BR_f, BO_b, PL_t, PL_f, ↓ESC_var, ↓ESC_ix, ↓KESC_var, ↓KESC_ix, ↓HOLD_var, ↓HOLD_ix, ↓BRW_var, ↓BRW_ix, scat_ni, scat_il, scat_inr, List.tail_cons, List.set_cons_zero, List.set_cons_succ, shS_z, shS_s, shD_z, shD_s, item_lst', item_tup', item_scr', atI_lit, a2_add, a2_sub, a2_mul, a2_fdiv, a2_mod, a2_pow, a2_lt, a2_le, a2_gt, a2_ge, a2_eqi, a2_nei, a2_max, a2_min, a2_inl, a2_int, a2_nil, a2_nit, a2_ind, a2_nid, a1_not, a1_neg, a1_len, a1_int, a1_intb, a1_str, a1_abs, a1_isN, a1_isNN, a1_isi, len_lst, len_tup, len_scr, len_dic, setD_l, setD_d, mut_app, mut_ext, mut_ins, ixN_lit, it_of, it_oft, it_r1, it_r2, it_r3, it_enu, it_zip, it_rev, it_keys, it_keysl, it_keyst, it_keystx, ↓W_opr, rev_l, rev_map, zip0_map, ds_nil, ds_cons, listD_l, listD_t, bind_t, binds_nil, binds_cons, bind_v, List.getElem?_cons_zero, List.getElem?_cons_succ, List.length_cons, List.length_nil, List.contains_nil, List.contains_cons, List.nil_append, List.append_nil, List.cons_append, Bool.and_true, Bool.true_and, Bool.and_false, Bool.false_and, Bool.or_true, Bool.true_or, Bool.or_false, Bool.false_or, Bool.not_true, Bool.not_false, decide_true, decide_false, if_true, if_false, true_and, and_true, ne_eq, not_false_eq_true, not_true_eq_false, false_and, and_false, Option.some.injEq, Option.map_some, reduceCtorEq, reduceIte, Nat.reduceAdd, Nat.reduceLT, Nat.reduceEqDiff, Nat.reduceBEq, Int.reduceLT, Int.reduceLE, Int.reduceEq, Int.reduceAdd, Int.reduceSub, Int.reduceMul, Int.reduceNeg, Int.reducePow, Nat.reducePow, Bool.false_eq_true, Int.reduceToNat, or_true, true_or, or_false, false_or, natAbs_lit, a2_eqb, a2_neb, cast_lit, ↓W_dct, ↓W_callv, fnOf_fn, pairUp_nil, pairUp_cons, keysOk_eq, kdist_nil, kdist_cons, dhas_nil, dhas_cons, keq_int, keq_tx, keyOk_int, keyOk_tx, dget_nil, dget_cons, vals_nil, vals_cons, item_dic, set_dn, set_tx, set_int, ↓newLst_deep, plainsApp, app_map, a1_intt, intT0, intT1, a1_sum, a1_sumd, a2_count, dn_int, plains_dn, scalars_dn, shps_dn, a2_eqld, a2_neld, a1_isBt, a1_isBf, a1_isBn, a1_isBi, a1_isBs, a1_isBl, W_FLnil, W_FLcons, List.any_cons, List.any_nil, a2_eql0, a2_nel0, shps_tx, shps_ints, isEmpty_map, sIx_n, sIx_s, slD_l, slD_t, drop_map, take_map, a2_eqlt, a2_nelt, a2_eqli, a2_neli, Bool.and_eq_true, decide_eq_true_eq, filt_true, atI_map, catD_l, eq_self, true_implies, implies_true, line_def, plains_tx, plains_ints, scalars_tx, scalars_ints, inB_iff, rng_length, Nat.reduceLeDiff, and_self, Nat.reduceMul, List.length_map, List.forall_mem_cons, plain_tx, kplain_tx, scalar_tx, vl_tx, isNon_tx, isDicD_tx, isiOk_tx, ty_tx_str, ty_tx_int, ty_tx_bool, ty_tx_list, ty_tx_tuple, ty_tx_dict, len_tx, item_tx, a2_addt, a2_eqt, a2_net, deq_tx, a2_joine, a2_mult, it_tx, slD_tx, a2_ins, a2_nins, wipes_nil, wipes_cons, back_nil, back_cons, KP_n, KP_d, KP_t, KP_h, KP_s, keepNil, keepCons, shv_d, getD_z, getD_s, Bool.and_self, List.map_cons, List.map_nil, ↓ESC_int, ↓KESC_int, ↓HOLD_int, ↓BRW_int, ↓Wac_int, ↓Wret_int, slI_int, isPl_int, ↓ESC_str, ↓KESC_str, ↓HOLD_str, ↓BRW_str, ↓Wac_str, ↓Wret_str, slI_str, isPl_str, ↓ESC_bl, ↓KESC_bl, ↓HOLD_bl, ↓BRW_bl, ↓Wac_bl, ↓Wret_bl, slI_bl, isPl_bl, ↓ESC_non, ↓KESC_non, ↓HOLD_non, ↓BRW_non, ↓Wac_non, ↓Wret_non, isPl_non, ↓ESC_glo, ↓KESC_glo, ↓HOLD_glo, ↓BRW_glo, ↓Wac_glo, ↓Wret_glo, slI_glo, isPl_glo, ↓ESC_io, ↓KESC_io, ↓HOLD_io, ↓BRW_io, ↓Wret_io, slI_io, isPl_io, ↓ESC_sl, ↓KESC_sl, ↓HOLD_sl, ↓BRW_sl, ↓Wac_sl, ↓Wret_sl, slI_sl, isPl_sl, ↓ESC_op1, ↓KESC_op1, ↓HOLD_op1, ↓BRW_op1, ↓Wac_op1, ↓Wret_op1, slI_op1, isPl_op1, ↓ESC_op2, ↓KESC_op2, ↓HOLD_op2, ↓BRW_op2, ↓Wac_op2, ↓Wret_op2, slI_op2, isPl_op2, ↓ESC_opP, ↓KESC_opP, ↓HOLD_opP, ↓BRW_opP, ↓Wac_opP, ↓Wret_opP, slI_opP, isPl_opP, ↓ESC_cat, ↓KESC_cat, ↓HOLD_cat, ↓BRW_cat, ↓Wac_cat, ↓Wret_cat, slI_cat, isPl_cat, ↓ESC_rep, ↓KESC_rep, ↓HOLD_rep, ↓BRW_rep, ↓Wac_rep, ↓Wret_rep, slI_rep, isPl_rep, ↓ESC_and, ↓KESC_and, ↓HOLD_and, ↓BRW_and, ↓Wac_and, ↓Wret_and, slI_and, isPl_and, ↓ESC_or, ↓KESC_or, ↓HOLD_or, ↓BRW_or, ↓Wac_or, ↓Wret_or, slI_or, isPl_or, ↓ESC_ife, ↓KESC_ife, ↓HOLD_ife, ↓BRW_ife, ↓Wac_ife, ↓Wret_ife, slI_ife, isPl_ife, ↓ESC_tup, ↓KESC_tup, ↓HOLD_tup, ↓BRW_tup, ↓Wac_tup, ↓Wret_tup, slI_tup, isPl_tup, ↓ESC_lst, ↓KESC_lst, ↓HOLD_lst, ↓BRW_lst, ↓Wac_lst, ↓Wret_lst, slI_lst, isPl_lst, ↓ESC_dct0, ↓KESC_dct0, ↓HOLD_dct0, ↓BRW_dct0, ↓Wac_dct0, ↓Wret_dct0, slI_dct0, isPl_dct0, ↓ESC_dct, ↓KESC_dct, ↓HOLD_dct, ↓BRW_dct, ↓Wac_dct, ↓Wret_dct, slI_dct, isPl_dct, ↓ESC_inG, ↓KESC_inG, ↓HOLD_inG, ↓BRW_inG, ↓Wac_inG, ↓Wret_inG, slI_inG, isPl_inG, ↓ESC_call, ↓KESC_call, ↓HOLD_call, ↓BRW_call, ↓Wac_call, ↓Wret_call, slI_call, isPl_call, ↓ESC_callv, ↓KESC_callv, ↓HOLD_callv, ↓BRW_callv, ↓Wac_callv, ↓Wret_callv, slI_callv, isPl_callv, ↓ESC_mut, ↓KESC_mut, ↓HOLD_mut, ↓BRW_mut, ↓Wac_mut, ↓Wret_mut, slI_mut, isPl_mut, ↓ESC_mutP, ↓KESC_mutP, ↓HOLD_mutP, ↓BRW_mutP, ↓Wac_mutP, ↓Wret_mutP, slI_mutP, isPl_mutP, ↓ESC_comp, ↓KESC_comp, ↓HOLD_comp, ↓BRW_comp, ↓Wac_comp, ↓Wret_comp, slI_comp, isPl_comp, ↓Wac_var, ↓Wac_ix, ↓Wret_ix, slI_non, slI_var, slI_ix, isPl_var, isPl_ix, root_var, root_ix, plain_non, kpl_non, vl_non, isDicD_non, isNon_non, isLstD_non, down_nond, down_nont, down_nons, scalar_non, isiOk_non, ty_non_int, ty_non_str, ty_non_bool, ty_non_list, ty_non_tuple, ty_non_dict, plain_bl, kpl_bl, vl_bl, isDicD_bl, isNon_bl, isLstD_bl, down_bld, down_blt, down_bls, scalar_bl, isiOk_bl, ty_bl_int, ty_bl_str, ty_bl_bool, ty_bl_list, ty_bl_tuple, ty_bl_dict, plain_int, kpl_int, vl_int, isDicD_int, isNon_int, isLstD_int, down_intd, down_intt, down_ints, scalar_int, isiOk_int, ty_int_int, ty_int_str, ty_int_bool, ty_int_list, ty_int_tuple, ty_int_dict, plain_str, kpl_str, vl_str, isDicD_str, isNon_str, isLstD_str, down_strd, down_strt, down_strs, scalar_str, isiOk_str, ty_str_int, ty_str_str, ty_str_bool, ty_str_list, ty_str_tuple, ty_str_dict, plain_fn, kpl_fn, vl_fn, isDicD_fn, isNon_fn, isLstD_fn, down_fnd, down_fnt, down_fns, scalar_fn, ty_fn_int, ty_fn_str, ty_fn_bool, ty_fn_list, ty_fn_tuple, ty_fn_dict, plain_scr, kpl_scr, vl_scr, isDicD_scr, isNon_scr, isLstD_scr, down_scrd, down_scrt, down_scrs, scalar_scr, ty_scr_int, ty_scr_str, ty_scr_bool, ty_scr_list, ty_scr_tuple, ty_scr_dict, plain_tup, kpl_tup, vl_tup, isDicD_tup, isNon_tup, isLstD_tup, down_tupd, down_tupt, down_tups, scalar_tup, isiOk_tup, ty_tup_int, ty_tup_str, ty_tup_bool, ty_tup_list, ty_tup_tuple, ty_tup_dict, plain_lst, kpl_lst, vl_lst, isDicD_lst, isNon_lst, isLstD_lst, down_lstd, down_lstt, down_lsts, scalar_lst, isiOk_lst, ty_lst_int, ty_lst_str, ty_lst_bool, ty_lst_list, ty_lst_tuple, ty_lst_dict, plain_dic, kpl_dic, vl_dic, isDicD_dic, isNon_dic, isLstD_dic, down_dicd, down_dict, down_dics, scalar_dic, ty_dic_int, ty_dic_str, ty_dic_bool, ty_dic_list, ty_dic_tuple, ty_dic_dict, isiOk_dic, plains_nil, plains_cons, scalars_nil, scalars_cons, kid_deep, kid_top, kid_sh, allDeep_nil, allDeep_deep, allDeep_sh, allDeep_top, mkTup_ite, mkLst_ite, newLst_ite, wr_int, wr_str, wr_bl, wr_non, wr_glo, wr_var, wr_dct0, wr_io, wr_ix, wr_sl, wr_op1, wr_op2, wr_opP, wr_cat, wr_rep, wr_and, wr_or, wr_tup, wr_lst, wr_call, wrS_skip, wrS_seq, wrS_set, wrS_setIx, wrS_setP, wrS_expr, wrS_ite, wrS_for_, wrS_whl, wrS_ret, wrS_retn, wr_ife, wr_inG, wr_callv, wr_mut, wr_mutP, wr_compv, wr_compt, wrs_nil, wrs_cons, wrx_def, tgs_v, tgs_t, st_, st_30, st_3030, st_3031, st_31, st_62616c6c, st_62617265, st_626f7468, st_6368656170657374, st_656974686572, st_6d616e79, st_6e656172, st_6f6464, st_70616972696e67, st_726f756e64, st_7369646573, st_74726565, vl_mk, plain_mk, kplain_mk, scalar_mk, isNon_mk, deq_txmk, a2_eqmk, a2_nemk, a2_nemkt, plain_end, vl_end, plains_end, shps_end, plain_view, str0, str1, $ls,*])
local macro_rules | `(tactic| dsimp! [$ls,*]) => `(tactic| simp (config := {dsimp := false, failIfUnchanged := false}) only [↓W_seq, ↓W_op1, ↓W_op2, ↓W_ix, ↓W_var, ↓W_int, ↓W_str, ↓W_bl, ↓W_non, ↓W_glo, ↓W_dct0, ↓W_inG, ↓W_mut, ↓W_nil, ↓W_cons, ↓W_tup, ↓W_lst, ↓W_and, ↓W_or, ↓W_ife, ↓W_list, ↓W_cat, ↓W_sl, ↓W_call, ↓W_anil, ↓W_aio, ↓W_gnil, ↓W_ginl, ↓W_ginr, ↓W_skip, ↓W_setv, ↓W_setT, ↓W_expr, ↓W_retn, ↓W_retv, ↓W_inil, ↓W_icons, ↓W_for, ↓W_rng, ↓W_of, ↓W_enu, ↓W_keys, ↓W_zip, ↓W_rev, ↓W_comp, ↓W_setIx, CHG_nil, GS_z, GS_s, OP_some, OP_ite, OP_map, PUT_def, BR_t, BR_f, BO_b, PL_t, PL_f, ↓ESC_var, ↓ESC_ix, ↓KESC_var, ↓KESC_ix, ↓HOLD_var, ↓HOLD_ix, ↓BRW_var, ↓BRW_ix, scat_ni, scat_il, scat_inr, List.tail_cons, List.set_cons_zero, List.set_cons_succ, shS_z, shS_s, shD_z, shD_s, item_lst', item_tup', item_scr', atI_lit, a2_add, a2_sub, a2_mul, a2_fdiv, a2_mod, a2_pow, a2_lt, a2_le, a2_gt, a2_ge, a2_eqi, a2_nei, a2_max, a2_min, a2_inl, a2_int, a2_nil, a2_nit, a2_ind, a2_nid, a1_not, a1_neg, a1_len, a1_int, a1_intb, a1_str, a1_abs, a1_isN, a1_isNN, a1_isi, len_lst, len_tup, len_scr, len_dic, setD_l, setD_d, mut_app, mut_ext, mut_ins, ixN_lit, it_of, it_oft, it_r1, it_r2, it_r3, it_enu, it_zip, it_rev, it_keys, it_keysl, it_keyst, it_keystx, ↓W_opr, rev_l, rev_map, zip0_map, ds_nil, ds_cons, listD_l, listD_t, bind_t, binds_nil, binds_cons, bind_v, List.getElem?_cons_zero, List.getElem?_cons_succ, List.length_cons, List.length_nil, List.contains_nil, List.contains_cons, List.nil_append, List.append_nil, List.cons_append, Bool.and_true, Bool.true_and, Bool.and_false, Bool.false_and, Bool.or_true, Bool.true_or, Bool.or_false, Bool.false_or, Bool.not_true, Bool.not_false, decide_true, decide_false, if_true, if_false, true_and, and_true, ne_eq, not_false_eq_true, not_true_eq_false, false_and, and_false, Option.some.injEq, Option.map_some, reduceCtorEq, reduceIte, Nat.reduceAdd, Nat.reduceLT, Nat.reduceEqDiff, Nat.reduceBEq, Int.reduceLT, Int.reduceLE, Int.reduceEq, Int.reduceAdd, Int.reduceSub, Int.reduceMul, Int.reduceNeg, Int.reducePow, Nat.reducePow, Bool.false_eq_true, Int.reduceToNat, or_true, true_or, or_false, false_or, natAbs_lit, a2_eqb, a2_neb, cast_lit, ↓W_dct, ↓W_callv, fnOf_fn, pairUp_nil, pairUp_cons, keysOk_eq, kdist_nil, kdist_cons, dhas_nil, dhas_cons, keq_int, keq_tx, keyOk_int, keyOk_tx, dget_nil, dget_cons, vals_nil, vals_cons, item_dic, set_dn, set_tx, set_int, ↓newLst_deep, plainsApp, app_map, a1_intt, intT0, intT1, a1_sum, a1_sumd, a2_count, dn_int, plains_dn, scalars_dn, shps_dn, a2_eqld, a2_neld, a1_isBt, a1_isBf, a1_isBn, a1_isBi, a1_isBs, a1_isBl, W_FLnil, W_FLcons, List.any_cons, List.any_nil, a2_eql0, a2_nel0, shps_tx, shps_ints, isEmpty_map, sIx_n, sIx_s, slD_l, slD_t, drop_map, take_map, a2_eqlt, a2_nelt, a2_eqli, a2_neli, Bool.and_eq_true, decide_eq_true_eq, filt_true, atI_map, catD_l, eq_self, true_implies, implies_true, line_def, plains_tx, plains_ints, scalars_tx, scalars_ints, inB_iff, rng_length, Nat.reduceLeDiff, and_self, Nat.reduceMul, List.length_map, List.forall_mem_cons, plain_tx, kplain_tx, scalar_tx, vl_tx, isNon_tx, isDicD_tx, isiOk_tx, ty_tx_str, ty_tx_int, ty_tx_bool, ty_tx_list, ty_tx_tuple, ty_tx_dict, len_tx, item_tx, a2_addt, a2_eqt, a2_net, deq_tx, a2_joine, a2_mult, it_tx, slD_tx, a2_ins, a2_nins, wipes_nil, wipes_cons, back_nil, back_cons, KP_n, KP_d, KP_t, KP_h, KP_s, keepNil, keepCons, shv_d, getD_z, getD_s, Bool.and_self, List.map_cons, List.map_nil, ↓ESC_int, ↓KESC_int, ↓HOLD_int, ↓BRW_int, ↓Wac_int, ↓Wret_int, slI_int, isPl_int, ↓ESC_str, ↓KESC_str, ↓HOLD_str, ↓BRW_str, ↓Wac_str, ↓Wret_str, slI_str, isPl_str, ↓ESC_bl, ↓KESC_bl, ↓HOLD_bl, ↓BRW_bl, ↓Wac_bl, ↓Wret_bl, slI_bl, isPl_bl, ↓ESC_non, ↓KESC_non, ↓HOLD_non, ↓BRW_non, ↓Wac_non, ↓Wret_non, isPl_non, ↓ESC_glo, ↓KESC_glo, ↓HOLD_glo, ↓BRW_glo, ↓Wac_glo, ↓Wret_glo, slI_glo, isPl_glo, ↓ESC_io, ↓KESC_io, ↓HOLD_io, ↓BRW_io, ↓Wret_io, slI_io, isPl_io, ↓ESC_sl, ↓KESC_sl, ↓HOLD_sl, ↓BRW_sl, ↓Wac_sl, ↓Wret_sl, slI_sl, isPl_sl, ↓ESC_op1, ↓KESC_op1, ↓HOLD_op1, ↓BRW_op1, ↓Wac_op1, ↓Wret_op1, slI_op1, isPl_op1, ↓ESC_op2, ↓KESC_op2, ↓HOLD_op2, ↓BRW_op2, ↓Wac_op2, ↓Wret_op2, slI_op2, isPl_op2, ↓ESC_opP, ↓KESC_opP, ↓HOLD_opP, ↓BRW_opP, ↓Wac_opP, ↓Wret_opP, slI_opP, isPl_opP, ↓ESC_cat, ↓KESC_cat, ↓HOLD_cat, ↓BRW_cat, ↓Wac_cat, ↓Wret_cat, slI_cat, isPl_cat, ↓ESC_rep, ↓KESC_rep, ↓HOLD_rep, ↓BRW_rep, ↓Wac_rep, ↓Wret_rep, slI_rep, isPl_rep, ↓ESC_and, ↓KESC_and, ↓HOLD_and, ↓BRW_and, ↓Wac_and, ↓Wret_and, slI_and, isPl_and, ↓ESC_or, ↓KESC_or, ↓HOLD_or, ↓BRW_or, ↓Wac_or, ↓Wret_or, slI_or, isPl_or, ↓ESC_ife, ↓KESC_ife, ↓HOLD_ife, ↓BRW_ife, ↓Wac_ife, ↓Wret_ife, slI_ife, isPl_ife, ↓ESC_tup, ↓KESC_tup, ↓HOLD_tup, ↓BRW_tup, ↓Wac_tup, ↓Wret_tup, slI_tup, isPl_tup, ↓ESC_lst, ↓KESC_lst, ↓HOLD_lst, ↓BRW_lst, ↓Wac_lst, ↓Wret_lst, slI_lst, isPl_lst, ↓ESC_dct0, ↓KESC_dct0, ↓HOLD_dct0, ↓BRW_dct0, ↓Wac_dct0, ↓Wret_dct0, slI_dct0, isPl_dct0, ↓ESC_dct, ↓KESC_dct, ↓HOLD_dct, ↓BRW_dct, ↓Wac_dct, ↓Wret_dct, slI_dct, isPl_dct, ↓ESC_inG, ↓KESC_inG, ↓HOLD_inG, ↓BRW_inG, ↓Wac_inG, ↓Wret_inG, slI_inG, isPl_inG, ↓ESC_call, ↓KESC_call, ↓HOLD_call, ↓BRW_call, ↓Wac_call, ↓Wret_call, slI_call, isPl_call, ↓ESC_callv, ↓KESC_callv, ↓HOLD_callv, ↓BRW_callv, ↓Wac_callv, ↓Wret_callv, slI_callv, isPl_callv, ↓ESC_mut, ↓KESC_mut, ↓HOLD_mut, ↓BRW_mut, ↓Wac_mut, ↓Wret_mut, slI_mut, isPl_mut, ↓ESC_mutP, ↓KESC_mutP, ↓HOLD_mutP, ↓BRW_mutP, ↓Wac_mutP, ↓Wret_mutP, slI_mutP, isPl_mutP, ↓ESC_comp, ↓KESC_comp, ↓HOLD_comp, ↓BRW_comp, ↓Wac_comp, ↓Wret_comp, slI_comp, isPl_comp, ↓Wac_var, ↓Wac_ix, ↓Wret_ix, slI_non, slI_var, slI_ix, isPl_var, isPl_ix, root_var, root_ix, plain_non, kpl_non, vl_non, isDicD_non, isNon_non, isLstD_non, down_nond, down_nont, down_nons, scalar_non, isiOk_non, ty_non_int, ty_non_str, ty_non_bool, ty_non_list, ty_non_tuple, ty_non_dict, plain_bl, kpl_bl, vl_bl, isDicD_bl, isNon_bl, isLstD_bl, down_bld, down_blt, down_bls, scalar_bl, isiOk_bl, ty_bl_int, ty_bl_str, ty_bl_bool, ty_bl_list, ty_bl_tuple, ty_bl_dict, plain_int, kpl_int, vl_int, isDicD_int, isNon_int, isLstD_int, down_intd, down_intt, down_ints, scalar_int, isiOk_int, ty_int_int, ty_int_str, ty_int_bool, ty_int_list, ty_int_tuple, ty_int_dict, plain_str, kpl_str, vl_str, isDicD_str, isNon_str, isLstD_str, down_strd, down_strt, down_strs, scalar_str, isiOk_str, ty_str_int, ty_str_str, ty_str_bool, ty_str_list, ty_str_tuple, ty_str_dict, plain_fn, kpl_fn, vl_fn, isDicD_fn, isNon_fn, isLstD_fn, down_fnd, down_fnt, down_fns, scalar_fn, ty_fn_int, ty_fn_str, ty_fn_bool, ty_fn_list, ty_fn_tuple, ty_fn_dict, plain_scr, kpl_scr, vl_scr, isDicD_scr, isNon_scr, isLstD_scr, down_scrd, down_scrt, down_scrs, scalar_scr, ty_scr_int, ty_scr_str, ty_scr_bool, ty_scr_list, ty_scr_tuple, ty_scr_dict, plain_tup, kpl_tup, vl_tup, isDicD_tup, isNon_tup, isLstD_tup, down_tupd, down_tupt, down_tups, scalar_tup, isiOk_tup, ty_tup_int, ty_tup_str, ty_tup_bool, ty_tup_list, ty_tup_tuple, ty_tup_dict, plain_lst, kpl_lst, vl_lst, isDicD_lst, isNon_lst, isLstD_lst, down_lstd, down_lstt, down_lsts, scalar_lst, isiOk_lst, ty_lst_int, ty_lst_str, ty_lst_bool, ty_lst_list, ty_lst_tuple, ty_lst_dict, plain_dic, kpl_dic, vl_dic, isDicD_dic, isNon_dic, isLstD_dic, down_dicd, down_dict, down_dics, scalar_dic, ty_dic_int, ty_dic_str, ty_dic_bool, ty_dic_list, ty_dic_tuple, ty_dic_dict, isiOk_dic, plains_nil, plains_cons, scalars_nil, scalars_cons, kid_deep, kid_top, kid_sh, allDeep_nil, allDeep_deep, allDeep_sh, allDeep_top, mkTup_ite, mkLst_ite, newLst_ite, wr_int, wr_str, wr_bl, wr_non, wr_glo, wr_var, wr_dct0, wr_io, wr_ix, wr_sl, wr_op1, wr_op2, wr_opP, wr_cat, wr_rep, wr_and, wr_or, wr_tup, wr_lst, wr_call, wrS_skip, wrS_seq, wrS_set, wrS_setIx, wrS_setP, wrS_expr, wrS_ite, wrS_for_, wrS_whl, wrS_ret, wrS_retn, wr_ife, wr_inG, wr_callv, wr_mut, wr_mutP, wr_compv, wr_compt, wrs_nil, wrs_cons, wrx_def, tgs_v, tgs_t, st_, st_30, st_3030, st_3031, st_31, st_62616c6c, st_62617265, st_626f7468, st_6368656170657374, st_656974686572, st_6d616e79, st_6e656172, st_6f6464, st_70616972696e67, st_726f756e64, st_7369646573, st_74726565, vl_mk, plain_mk, kplain_mk, scalar_mk, isNon_mk, deq_txmk, a2_eqmk, a2_nemk, a2_nemkt, plain_end, vl_end, plains_end, shps_end, plain_view, str0, str1, $ls,*])


local macro_rules | `(tactic| simp! [$ls,*]) => `(tactic| simp (config := {dsimp := false, failIfUnchanged := false}) only [↓W_seq, ↓W_ite, ↓W_op1, ↓W_op2, ↓W_ix, ↓W_var, ↓W_int, ↓W_str, ↓W_bl, ↓W_non, ↓W_glo, ↓W_dct0, ↓W_inG, ↓W_mut, ↓W_nil, ↓W_cons, ↓W_tup, ↓W_lst, ↓W_and, ↓W_or, ↓W_ife, ↓W_list, ↓W_cat, ↓W_sl, ↓W_call, ↓W_anil, ↓W_aio, ↓W_gnil, ↓W_ginl, ↓W_ginr, ↓W_skip, ↓W_setv, ↓W_setT, ↓W_expr, ↓W_retn, ↓W_retv, ↓W_inil, ↓W_icons, ↓W_for, ↓W_rng, ↓W_of, ↓W_enu, ↓W_keys, ↓W_zip, ↓W_rev, ↓W_comp, ↓W_setIx, CHG_nil, GS_z, GS_s, OP_some, OP_ite, OP_map, PUT_def, BR_t, BR_f, BO_b, PL_t, PL_f, ↓ESC_var, ↓ESC_ix, ↓KESC_var, ↓KESC_ix, ↓HOLD_var, ↓HOLD_ix, ↓BRW_var, ↓BRW_ix, scat_ni, scat_il, scat_inr, List.tail_cons, List.set_cons_zero, List.set_cons_succ, shS_z, shS_s, shD_z, shD_s, item_lst', item_tup', item_scr', atI_lit, a2_add, a2_sub, a2_mul, a2_fdiv, a2_mod, a2_pow, a2_lt, a2_le, a2_gt, a2_ge, a2_eqi, a2_nei, a2_max, a2_min, a2_inl, a2_int, a2_nil, a2_nit, a2_ind, a2_nid, a1_not, a1_neg, a1_len, a1_int, a1_intb, a1_str, a1_abs, a1_isN, a1_isNN, a1_isi, len_lst, len_tup, len_scr, len_dic, setD_l, setD_d, mut_app, mut_ext, mut_ins, ixN_lit, it_of, it_oft, it_r1, it_r2, it_r3, it_enu, it_zip, it_rev, it_keys, it_keysl, it_keyst, it_keystx, ↓W_opr, rev_l, rev_map, zip0_map, ds_nil, ds_cons, listD_l, listD_t, bind_t, binds_nil, binds_cons, bind_v, List.getElem?_cons_zero, List.getElem?_cons_succ, List.length_cons, List.length_nil, List.contains_nil, List.contains_cons, List.nil_append, List.append_nil, List.cons_append, Bool.and_true, Bool.true_and, Bool.and_false, Bool.false_and, Bool.or_true, Bool.true_or, Bool.or_false, Bool.false_or, Bool.not_true, Bool.not_false, decide_true, decide_false, if_true, if_false, true_and, and_true, ne_eq, not_false_eq_true, not_true_eq_false, false_and, and_false, Option.some.injEq, Option.map_some, reduceCtorEq, reduceIte, Nat.reduceAdd, Nat.reduceLT, Nat.reduceEqDiff, Nat.reduceBEq, Int.reduceLT, Int.reduceLE, Int.reduceEq, Int.reduceAdd, Int.reduceSub, Int.reduceMul, Int.reduceNeg, Int.reducePow, Nat.reducePow, Bool.false_eq_true, Int.reduceToNat, or_true, true_or, or_false, false_or, natAbs_lit, a2_eqb, a2_neb, cast_lit, ↓W_dct, ↓W_callv, fnOf_fn, pairUp_nil, pairUp_cons, keysOk_eq, kdist_nil, kdist_cons, dhas_nil, dhas_cons, keq_int, keq_tx, keyOk_int, keyOk_tx, dget_nil, dget_cons, vals_nil, vals_cons, item_dic, set_dn, set_tx, set_int, ↓newLst_deep, plainsApp, app_map, a1_intt, intT0, intT1, a1_sum, a1_sumd, a2_count, dn_int, plains_dn, scalars_dn, shps_dn, a2_eqld, a2_neld, a1_isBt, a1_isBf, a1_isBn, a1_isBi, a1_isBs, a1_isBl, W_FLnil, W_FLcons, List.any_cons, List.any_nil, a2_eql0, a2_nel0, shps_tx, shps_ints, isEmpty_map, sIx_n, sIx_s, slD_l, slD_t, drop_map, take_map, a2_eqlt, a2_nelt, a2_eqli, a2_neli, Bool.and_eq_true, decide_eq_true_eq, filt_true, atI_map, catD_l, eq_self, true_implies, implies_true, line_def, plains_tx, plains_ints, scalars_tx, scalars_ints, inB_iff, rng_length, Nat.reduceLeDiff, and_self, Nat.reduceMul, List.length_map, List.forall_mem_cons, plain_tx, kplain_tx, scalar_tx, vl_tx, isNon_tx, isDicD_tx, isiOk_tx, ty_tx_str, ty_tx_int, ty_tx_bool, ty_tx_list, ty_tx_tuple, ty_tx_dict, len_tx, item_tx, a2_addt, a2_eqt, a2_net, deq_tx, a2_joine, a2_mult, it_tx, slD_tx, a2_ins, a2_nins, wipes_nil, wipes_cons, back_nil, back_cons, KP_n, KP_d, KP_t, KP_h, KP_s, keepNil, keepCons, shv_d, getD_z, getD_s, Bool.and_self, List.map_cons, List.map_nil, ↓ESC_int, ↓KESC_int, ↓HOLD_int, ↓BRW_int, ↓Wac_int, ↓Wret_int, slI_int, isPl_int, ↓ESC_str, ↓KESC_str, ↓HOLD_str, ↓BRW_str, ↓Wac_str, ↓Wret_str, slI_str, isPl_str, ↓ESC_bl, ↓KESC_bl, ↓HOLD_bl, ↓BRW_bl, ↓Wac_bl, ↓Wret_bl, slI_bl, isPl_bl, ↓ESC_non, ↓KESC_non, ↓HOLD_non, ↓BRW_non, ↓Wac_non, ↓Wret_non, isPl_non, ↓ESC_glo, ↓KESC_glo, ↓HOLD_glo, ↓BRW_glo, ↓Wac_glo, ↓Wret_glo, slI_glo, isPl_glo, ↓ESC_io, ↓KESC_io, ↓HOLD_io, ↓BRW_io, ↓Wret_io, slI_io, isPl_io, ↓ESC_sl, ↓KESC_sl, ↓HOLD_sl, ↓BRW_sl, ↓Wac_sl, ↓Wret_sl, slI_sl, isPl_sl, ↓ESC_op1, ↓KESC_op1, ↓HOLD_op1, ↓BRW_op1, ↓Wac_op1, ↓Wret_op1, slI_op1, isPl_op1, ↓ESC_op2, ↓KESC_op2, ↓HOLD_op2, ↓BRW_op2, ↓Wac_op2, ↓Wret_op2, slI_op2, isPl_op2, ↓ESC_opP, ↓KESC_opP, ↓HOLD_opP, ↓BRW_opP, ↓Wac_opP, ↓Wret_opP, slI_opP, isPl_opP, ↓ESC_cat, ↓KESC_cat, ↓HOLD_cat, ↓BRW_cat, ↓Wac_cat, ↓Wret_cat, slI_cat, isPl_cat, ↓ESC_rep, ↓KESC_rep, ↓HOLD_rep, ↓BRW_rep, ↓Wac_rep, ↓Wret_rep, slI_rep, isPl_rep, ↓ESC_and, ↓KESC_and, ↓HOLD_and, ↓BRW_and, ↓Wac_and, ↓Wret_and, slI_and, isPl_and, ↓ESC_or, ↓KESC_or, ↓HOLD_or, ↓BRW_or, ↓Wac_or, ↓Wret_or, slI_or, isPl_or, ↓ESC_ife, ↓KESC_ife, ↓HOLD_ife, ↓BRW_ife, ↓Wac_ife, ↓Wret_ife, slI_ife, isPl_ife, ↓ESC_tup, ↓KESC_tup, ↓HOLD_tup, ↓BRW_tup, ↓Wac_tup, ↓Wret_tup, slI_tup, isPl_tup, ↓ESC_lst, ↓KESC_lst, ↓HOLD_lst, ↓BRW_lst, ↓Wac_lst, ↓Wret_lst, slI_lst, isPl_lst, ↓ESC_dct0, ↓KESC_dct0, ↓HOLD_dct0, ↓BRW_dct0, ↓Wac_dct0, ↓Wret_dct0, slI_dct0, isPl_dct0, ↓ESC_dct, ↓KESC_dct, ↓HOLD_dct, ↓BRW_dct, ↓Wac_dct, ↓Wret_dct, slI_dct, isPl_dct, ↓ESC_inG, ↓KESC_inG, ↓HOLD_inG, ↓BRW_inG, ↓Wac_inG, ↓Wret_inG, slI_inG, isPl_inG, ↓ESC_call, ↓KESC_call, ↓HOLD_call, ↓BRW_call, ↓Wac_call, ↓Wret_call, slI_call, isPl_call, ↓ESC_callv, ↓KESC_callv, ↓HOLD_callv, ↓BRW_callv, ↓Wac_callv, ↓Wret_callv, slI_callv, isPl_callv, ↓ESC_mut, ↓KESC_mut, ↓HOLD_mut, ↓BRW_mut, ↓Wac_mut, ↓Wret_mut, slI_mut, isPl_mut, ↓ESC_mutP, ↓KESC_mutP, ↓HOLD_mutP, ↓BRW_mutP, ↓Wac_mutP, ↓Wret_mutP, slI_mutP, isPl_mutP, ↓ESC_comp, ↓KESC_comp, ↓HOLD_comp, ↓BRW_comp, ↓Wac_comp, ↓Wret_comp, slI_comp, isPl_comp, ↓Wac_var, ↓Wac_ix, ↓Wret_ix, slI_non, slI_var, slI_ix, isPl_var, isPl_ix, root_var, root_ix, plain_non, kpl_non, vl_non, isDicD_non, isNon_non, isLstD_non, down_nond, down_nont, down_nons, scalar_non, isiOk_non, ty_non_int, ty_non_str, ty_non_bool, ty_non_list, ty_non_tuple, ty_non_dict, plain_bl, kpl_bl, vl_bl, isDicD_bl, isNon_bl, isLstD_bl, down_bld, down_blt, down_bls, scalar_bl, isiOk_bl, ty_bl_int, ty_bl_str, ty_bl_bool, ty_bl_list, ty_bl_tuple, ty_bl_dict, plain_int, kpl_int, vl_int, isDicD_int, isNon_int, isLstD_int, down_intd, down_intt, down_ints, scalar_int, isiOk_int, ty_int_int, ty_int_str, ty_int_bool, ty_int_list, ty_int_tuple, ty_int_dict, plain_str, kpl_str, vl_str, isDicD_str, isNon_str, isLstD_str, down_strd, down_strt, down_strs, scalar_str, isiOk_str, ty_str_int, ty_str_str, ty_str_bool, ty_str_list, ty_str_tuple, ty_str_dict, plain_fn, kpl_fn, vl_fn, isDicD_fn, isNon_fn, isLstD_fn, down_fnd, down_fnt, down_fns, scalar_fn, ty_fn_int, ty_fn_str, ty_fn_bool, ty_fn_list, ty_fn_tuple, ty_fn_dict, plain_scr, kpl_scr, vl_scr, isDicD_scr, isNon_scr, isLstD_scr, down_scrd, down_scrt, down_scrs, scalar_scr, ty_scr_int, ty_scr_str, ty_scr_bool, ty_scr_list, ty_scr_tuple, ty_scr_dict, plain_tup, kpl_tup, vl_tup, isDicD_tup, isNon_tup, isLstD_tup, down_tupd, down_tupt, down_tups, scalar_tup, isiOk_tup, ty_tup_int, ty_tup_str, ty_tup_bool, ty_tup_list, ty_tup_tuple, ty_tup_dict, plain_lst, kpl_lst, vl_lst, isDicD_lst, isNon_lst, isLstD_lst, down_lstd, down_lstt, down_lsts, scalar_lst, isiOk_lst, ty_lst_int, ty_lst_str, ty_lst_bool, ty_lst_list, ty_lst_tuple, ty_lst_dict, plain_dic, kpl_dic, vl_dic, isDicD_dic, isNon_dic, isLstD_dic, down_dicd, down_dict, down_dics, scalar_dic, ty_dic_int, ty_dic_str, ty_dic_bool, ty_dic_list, ty_dic_tuple, ty_dic_dict, isiOk_dic, plains_nil, plains_cons, scalars_nil, scalars_cons, kid_deep, kid_top, kid_sh, allDeep_nil, allDeep_deep, allDeep_sh, allDeep_top, mkTup_ite, mkLst_ite, newLst_ite, wr_int, wr_str, wr_bl, wr_non, wr_glo, wr_var, wr_dct0, wr_io, wr_ix, wr_sl, wr_op1, wr_op2, wr_opP, wr_cat, wr_rep, wr_and, wr_or, wr_tup, wr_lst, wr_call, wrS_skip, wrS_seq, wrS_set, wrS_setIx, wrS_setP, wrS_expr, wrS_ite, wrS_for_, wrS_whl, wrS_ret, wrS_retn, wr_ife, wr_inG, wr_callv, wr_mut, wr_mutP, wr_compv, wr_compt, wrs_nil, wrs_cons, wrx_def, tgs_v, tgs_t, st_, st_30, st_3030, st_3031, st_31, st_62616c6c, st_62617265, st_626f7468, st_6368656170657374, st_656974686572, st_6d616e79, st_6e656172, st_6f6464, st_70616972696e67, st_726f756e64, st_7369646573, st_74726565, vl_mk, plain_mk, kplain_mk, scalar_mk, isNon_mk, deq_txmk, a2_eqmk, a2_nemk, a2_nemkt, plain_end, vl_end, plains_end, shps_end, plain_view, $ls,*])
local macro_rules | `(tactic| dsimp! [$ls,*]) => `(tactic| simp (config := {dsimp := false, failIfUnchanged := false}) only [↓W_seq, ↓W_op1, ↓W_op2, ↓W_ix, ↓W_var, ↓W_int, ↓W_str, ↓W_bl, ↓W_non, ↓W_glo, ↓W_dct0, ↓W_inG, ↓W_mut, ↓W_nil, ↓W_cons, ↓W_tup, ↓W_lst, ↓W_and, ↓W_or, ↓W_ife, ↓W_list, ↓W_cat, ↓W_sl, ↓W_call, ↓W_anil, ↓W_aio, ↓W_gnil, ↓W_ginl, ↓W_ginr, ↓W_skip, ↓W_setv, ↓W_setT, ↓W_expr, ↓W_retn, ↓W_retv, ↓W_inil, ↓W_icons, ↓W_for, ↓W_rng, ↓W_of, ↓W_enu, ↓W_keys, ↓W_zip, ↓W_rev, ↓W_comp, ↓W_setIx, CHG_nil, GS_z, GS_s, OP_some, OP_ite, OP_map, PUT_def, BR_t, BR_f, BO_b, PL_t, PL_f, ↓ESC_var, ↓ESC_ix, ↓KESC_var, ↓KESC_ix, ↓HOLD_var, ↓HOLD_ix, ↓BRW_var, ↓BRW_ix, scat_ni, scat_il, scat_inr, List.tail_cons, List.set_cons_zero, List.set_cons_succ, shS_z, shS_s, shD_z, shD_s, item_lst', item_tup', item_scr', atI_lit, a2_add, a2_sub, a2_mul, a2_fdiv, a2_mod, a2_pow, a2_lt, a2_le, a2_gt, a2_ge, a2_eqi, a2_nei, a2_max, a2_min, a2_inl, a2_int, a2_nil, a2_nit, a2_ind, a2_nid, a1_not, a1_neg, a1_len, a1_int, a1_intb, a1_str, a1_abs, a1_isN, a1_isNN, a1_isi, len_lst, len_tup, len_scr, len_dic, setD_l, setD_d, mut_app, mut_ext, mut_ins, ixN_lit, it_of, it_oft, it_r1, it_r2, it_r3, it_enu, it_zip, it_rev, it_keys, it_keysl, it_keyst, it_keystx, ↓W_opr, rev_l, rev_map, zip0_map, ds_nil, ds_cons, listD_l, listD_t, bind_t, binds_nil, binds_cons, bind_v, List.getElem?_cons_zero, List.getElem?_cons_succ, List.length_cons, List.length_nil, List.contains_nil, List.contains_cons, List.nil_append, List.append_nil, List.cons_append, Bool.and_true, Bool.true_and, Bool.and_false, Bool.false_and, Bool.or_true, Bool.true_or, Bool.or_false, Bool.false_or, Bool.not_true, Bool.not_false, decide_true, decide_false, if_true, if_false, true_and, and_true, ne_eq, not_false_eq_true, not_true_eq_false, false_and, and_false, Option.some.injEq, Option.map_some, reduceCtorEq, reduceIte, Nat.reduceAdd, Nat.reduceLT, Nat.reduceEqDiff, Nat.reduceBEq, Int.reduceLT, Int.reduceLE, Int.reduceEq, Int.reduceAdd, Int.reduceSub, Int.reduceMul, Int.reduceNeg, Int.reducePow, Nat.reducePow, Bool.false_eq_true, Int.reduceToNat, or_true, true_or, or_false, false_or, natAbs_lit, a2_eqb, a2_neb, cast_lit, ↓W_dct, ↓W_callv, fnOf_fn, pairUp_nil, pairUp_cons, keysOk_eq, kdist_nil, kdist_cons, dhas_nil, dhas_cons, keq_int, keq_tx, keyOk_int, keyOk_tx, dget_nil, dget_cons, vals_nil, vals_cons, item_dic, set_dn, set_tx, set_int, ↓newLst_deep, plainsApp, app_map, a1_intt, intT0, intT1, a1_sum, a1_sumd, a2_count, dn_int, plains_dn, scalars_dn, shps_dn, a2_eqld, a2_neld, a1_isBt, a1_isBf, a1_isBn, a1_isBi, a1_isBs, a1_isBl, W_FLnil, W_FLcons, List.any_cons, List.any_nil, a2_eql0, a2_nel0, shps_tx, shps_ints, isEmpty_map, sIx_n, sIx_s, slD_l, slD_t, drop_map, take_map, a2_eqlt, a2_nelt, a2_eqli, a2_neli, Bool.and_eq_true, decide_eq_true_eq, filt_true, atI_map, catD_l, eq_self, true_implies, implies_true, line_def, plains_tx, plains_ints, scalars_tx, scalars_ints, inB_iff, rng_length, Nat.reduceLeDiff, and_self, Nat.reduceMul, List.length_map, List.forall_mem_cons, plain_tx, kplain_tx, scalar_tx, vl_tx, isNon_tx, isDicD_tx, isiOk_tx, ty_tx_str, ty_tx_int, ty_tx_bool, ty_tx_list, ty_tx_tuple, ty_tx_dict, len_tx, item_tx, a2_addt, a2_eqt, a2_net, deq_tx, a2_joine, a2_mult, it_tx, slD_tx, a2_ins, a2_nins, wipes_nil, wipes_cons, back_nil, back_cons, KP_n, KP_d, KP_t, KP_h, KP_s, keepNil, keepCons, shv_d, getD_z, getD_s, Bool.and_self, List.map_cons, List.map_nil, ↓ESC_int, ↓KESC_int, ↓HOLD_int, ↓BRW_int, ↓Wac_int, ↓Wret_int, slI_int, isPl_int, ↓ESC_str, ↓KESC_str, ↓HOLD_str, ↓BRW_str, ↓Wac_str, ↓Wret_str, slI_str, isPl_str, ↓ESC_bl, ↓KESC_bl, ↓HOLD_bl, ↓BRW_bl, ↓Wac_bl, ↓Wret_bl, slI_bl, isPl_bl, ↓ESC_non, ↓KESC_non, ↓HOLD_non, ↓BRW_non, ↓Wac_non, ↓Wret_non, isPl_non, ↓ESC_glo, ↓KESC_glo, ↓HOLD_glo, ↓BRW_glo, ↓Wac_glo, ↓Wret_glo, slI_glo, isPl_glo, ↓ESC_io, ↓KESC_io, ↓HOLD_io, ↓BRW_io, ↓Wret_io, slI_io, isPl_io, ↓ESC_sl, ↓KESC_sl, ↓HOLD_sl, ↓BRW_sl, ↓Wac_sl, ↓Wret_sl, slI_sl, isPl_sl, ↓ESC_op1, ↓KESC_op1, ↓HOLD_op1, ↓BRW_op1, ↓Wac_op1, ↓Wret_op1, slI_op1, isPl_op1, ↓ESC_op2, ↓KESC_op2, ↓HOLD_op2, ↓BRW_op2, ↓Wac_op2, ↓Wret_op2, slI_op2, isPl_op2, ↓ESC_opP, ↓KESC_opP, ↓HOLD_opP, ↓BRW_opP, ↓Wac_opP, ↓Wret_opP, slI_opP, isPl_opP, ↓ESC_cat, ↓KESC_cat, ↓HOLD_cat, ↓BRW_cat, ↓Wac_cat, ↓Wret_cat, slI_cat, isPl_cat, ↓ESC_rep, ↓KESC_rep, ↓HOLD_rep, ↓BRW_rep, ↓Wac_rep, ↓Wret_rep, slI_rep, isPl_rep, ↓ESC_and, ↓KESC_and, ↓HOLD_and, ↓BRW_and, ↓Wac_and, ↓Wret_and, slI_and, isPl_and, ↓ESC_or, ↓KESC_or, ↓HOLD_or, ↓BRW_or, ↓Wac_or, ↓Wret_or, slI_or, isPl_or, ↓ESC_ife, ↓KESC_ife, ↓HOLD_ife, ↓BRW_ife, ↓Wac_ife, ↓Wret_ife, slI_ife, isPl_ife, ↓ESC_tup, ↓KESC_tup, ↓HOLD_tup, ↓BRW_tup, ↓Wac_tup, ↓Wret_tup, slI_tup, isPl_tup, ↓ESC_lst, ↓KESC_lst, ↓HOLD_lst, ↓BRW_lst, ↓Wac_lst, ↓Wret_lst, slI_lst, isPl_lst, ↓ESC_dct0, ↓KESC_dct0, ↓HOLD_dct0, ↓BRW_dct0, ↓Wac_dct0, ↓Wret_dct0, slI_dct0, isPl_dct0, ↓ESC_dct, ↓KESC_dct, ↓HOLD_dct, ↓BRW_dct, ↓Wac_dct, ↓Wret_dct, slI_dct, isPl_dct, ↓ESC_inG, ↓KESC_inG, ↓HOLD_inG, ↓BRW_inG, ↓Wac_inG, ↓Wret_inG, slI_inG, isPl_inG, ↓ESC_call, ↓KESC_call, ↓HOLD_call, ↓BRW_call, ↓Wac_call, ↓Wret_call, slI_call, isPl_call, ↓ESC_callv, ↓KESC_callv, ↓HOLD_callv, ↓BRW_callv, ↓Wac_callv, ↓Wret_callv, slI_callv, isPl_callv, ↓ESC_mut, ↓KESC_mut, ↓HOLD_mut, ↓BRW_mut, ↓Wac_mut, ↓Wret_mut, slI_mut, isPl_mut, ↓ESC_mutP, ↓KESC_mutP, ↓HOLD_mutP, ↓BRW_mutP, ↓Wac_mutP, ↓Wret_mutP, slI_mutP, isPl_mutP, ↓ESC_comp, ↓KESC_comp, ↓HOLD_comp, ↓BRW_comp, ↓Wac_comp, ↓Wret_comp, slI_comp, isPl_comp, ↓Wac_var, ↓Wac_ix, ↓Wret_ix, slI_non, slI_var, slI_ix, isPl_var, isPl_ix, root_var, root_ix, plain_non, kpl_non, vl_non, isDicD_non, isNon_non, isLstD_non, down_nond, down_nont, down_nons, scalar_non, isiOk_non, ty_non_int, ty_non_str, ty_non_bool, ty_non_list, ty_non_tuple, ty_non_dict, plain_bl, kpl_bl, vl_bl, isDicD_bl, isNon_bl, isLstD_bl, down_bld, down_blt, down_bls, scalar_bl, isiOk_bl, ty_bl_int, ty_bl_str, ty_bl_bool, ty_bl_list, ty_bl_tuple, ty_bl_dict, plain_int, kpl_int, vl_int, isDicD_int, isNon_int, isLstD_int, down_intd, down_intt, down_ints, scalar_int, isiOk_int, ty_int_int, ty_int_str, ty_int_bool, ty_int_list, ty_int_tuple, ty_int_dict, plain_str, kpl_str, vl_str, isDicD_str, isNon_str, isLstD_str, down_strd, down_strt, down_strs, scalar_str, isiOk_str, ty_str_int, ty_str_str, ty_str_bool, ty_str_list, ty_str_tuple, ty_str_dict, plain_fn, kpl_fn, vl_fn, isDicD_fn, isNon_fn, isLstD_fn, down_fnd, down_fnt, down_fns, scalar_fn, ty_fn_int, ty_fn_str, ty_fn_bool, ty_fn_list, ty_fn_tuple, ty_fn_dict, plain_scr, kpl_scr, vl_scr, isDicD_scr, isNon_scr, isLstD_scr, down_scrd, down_scrt, down_scrs, scalar_scr, ty_scr_int, ty_scr_str, ty_scr_bool, ty_scr_list, ty_scr_tuple, ty_scr_dict, plain_tup, kpl_tup, vl_tup, isDicD_tup, isNon_tup, isLstD_tup, down_tupd, down_tupt, down_tups, scalar_tup, isiOk_tup, ty_tup_int, ty_tup_str, ty_tup_bool, ty_tup_list, ty_tup_tuple, ty_tup_dict, plain_lst, kpl_lst, vl_lst, isDicD_lst, isNon_lst, isLstD_lst, down_lstd, down_lstt, down_lsts, scalar_lst, isiOk_lst, ty_lst_int, ty_lst_str, ty_lst_bool, ty_lst_list, ty_lst_tuple, ty_lst_dict, plain_dic, kpl_dic, vl_dic, isDicD_dic, isNon_dic, isLstD_dic, down_dicd, down_dict, down_dics, scalar_dic, ty_dic_int, ty_dic_str, ty_dic_bool, ty_dic_list, ty_dic_tuple, ty_dic_dict, isiOk_dic, plains_nil, plains_cons, scalars_nil, scalars_cons, kid_deep, kid_top, kid_sh, allDeep_nil, allDeep_deep, allDeep_sh, allDeep_top, mkTup_ite, mkLst_ite, newLst_ite, wr_int, wr_str, wr_bl, wr_non, wr_glo, wr_var, wr_dct0, wr_io, wr_ix, wr_sl, wr_op1, wr_op2, wr_opP, wr_cat, wr_rep, wr_and, wr_or, wr_tup, wr_lst, wr_call, wrS_skip, wrS_seq, wrS_set, wrS_setIx, wrS_setP, wrS_expr, wrS_ite, wrS_for_, wrS_whl, wrS_ret, wrS_retn, wr_ife, wr_inG, wr_callv, wr_mut, wr_mutP, wr_compv, wr_compt, wrs_nil, wrs_cons, wrx_def, tgs_v, tgs_t, st_, st_30, st_3030, st_3031, st_31, st_62616c6c, st_62617265, st_626f7468, st_6368656170657374, st_656974686572, st_6d616e79, st_6e656172, st_6f6464, st_70616972696e67, st_726f756e64, st_7369646573, st_74726565, vl_mk, plain_mk, kplain_mk, scalar_mk, isNon_mk, deq_txmk, a2_eqmk, a2_nemk, a2_nemkt, plain_end, vl_end, plains_end, shps_end, plain_view, $ls,*])
theorem str01 (z : Int) : ∃ c : Nat, (c = 48 ∨ c = 49) ∧ D.str (Str.ofString (toString (z % 2))) = tx [c] := by
  rcases Int.emod_two_eq z with h | h
  · exact ⟨48, .inl rfl, by rw [h]; exact congrArg D.str (by decide +kernel)⟩
  · exact ⟨49, .inr rfl, by rw [h]; exact congrArg D.str (by decide +kernel)⟩
theorem small2 (z : Int) : (z % 2).natAbs.log2 < 1920 := by
  rcases Int.emod_two_eq z with h | h <;> rw [h] <;> decide
theorem bits_snoc {l : List Nat} {c : Nat} (h : isBits l) (hc : c = 48 ∨ c = 49) : isBits (l ++ [c]) := fun x hx => by
  rcases List.mem_append.mp hx with h' | h'
  · exact h x h'
  · rw [List.mem_singleton.mp h']; exact hc
def parts12 : List Int := [2048, 1024, 512, 256, 128, 64, 32, 16, 8, 4, 2, 1]
theorem parts12_ok : ∀ (k : Nat) (h : k < parts12.length), 0 < parts12[k] ∧ parts12[k] < 1073741824 := by decide
theorem C_law_mark {n : Nat} {ms : List Int} (hl : ms.length ≤ 4) : CL (call tab (n + 1)) g_law_mark_k39 [(.lst (ms.map .int), .deep)] fun r os => ∃ l, isBits l ∧ l.length = 12 * ms.length ∧ r = (tx l, .deep) := by
  refine cl_law_mark_k39 ?_
  unfold s_law_mark_k39
  simp! []
  refine FL_ix (fun k E => ∃ l o1 o2, isBits l ∧ l.length = 12 * k ∧ E = [some (.lst (ms.map .int), .deep), some (tx l, .deep), o1, o2]) ⟨[], none, none, (fun _ h => by cases h), rfl, rfl⟩ ?_ ?_
  · rintro k _ hk ⟨l, o1, o2, hb, hlen, rfl⟩
    have hk : k < ms.length := by simpa using hk
    simp! [List.getElem_map, -W_FLcons]
    rw [show ([D.int 2048, D.int 1024, D.int 512, D.int 256, D.int 128, D.int 64, D.int 32, D.int 16, D.int 8, D.int 4, D.int 2, D.int 1] : List D) = parts12.map .int from rfl]
    refine FL_ix (fun j E => ∃ l o2, isBits l ∧ l.length = 12 * k + j ∧ E = [some (.lst (ms.map .int), .deep), some (tx l, .deep), some (.int ms[k], .deep), o2]) ⟨l, o2, hb, hlen, rfl⟩ ?_ ?_
    · rintro j _ hj ⟨l, o2, hb, hlen, rfl⟩
      have hj : j < parts12.length := by simpa using hj
      have h12 : parts12.length = 12 := rfl
      obtain ⟨p0, p1⟩ := parts12_ok j hj
      obtain ⟨c, hc, e⟩ := str01 (ms[k] / parts12[j])
      have hs := small2 (ms[k] / parts12[j])
      simp! [List.getElem_map, e]
      exact ⟨⟨p0, p1⟩, hs, by omega, l ++ [c], _, bits_snoc hb hc, by simp; omega, rfl⟩
    · rintro _ ⟨l, o2, hb, hlen, rfl⟩
      simp! []
      exact ⟨l, _, _, hb, by rw [hlen]; show _ + 12 = _; omega, rfl⟩
  · rintro _ ⟨l, o1, o2, hb, hlen, rfl⟩
    simp! []
    exact ⟨l, hb, by simpa using hlen, rfl⟩

theorem bits_app {l m : List Nat} (h : isBits l) (h' : isBits m) : isBits (l ++ m) := fun x hx => (List.mem_append.mp hx).elim (h x) (h' x)
theorem bits_take {l : List Nat} (h : isBits l) (k : Nat) : isBits (l.take k) := fun x hx => h x (List.mem_of_mem_take hx)
theorem bits_drop {l : List Nat} (h : isBits l) (k : Nat) : isBits (l.drop k) := fun x hx => h x (List.mem_of_mem_drop hx)
theorem C_odd_mark {n : Nat} {a b r0 f0 : Int} : CL (call tab (n + 2)) g_law_odd_mark [(.lst [.int a, .int b], .deep), (.int r0, .deep), (.int f0, .deep)] fun r os => ∃ (o : Mk) (a b : Int), MkOK o ∧ r = (mD o, .deep) ∧ os = [some (.lst [.int a, .int b], .deep), some (.int r0, .deep), some (.int f0, .deep)] := by
  refine cl_law_odd_mark ?_
  unfold s_law_odd_mark
  simp! []
  refine cl (C_law_mark (ms := [r0, f0]) (by simp)) ?_
  rintro _ _ ⟨l, hl, hlen, rfl⟩
  have hlen : l.length = 24 := hlen
  simp! []
  refine ⟨by omega, by omega, ?_⟩
  refine cl (C_law_mark (ms := [1]) (by simp)) ?_
  rintro _ _ ⟨m, hm, hlm, rfl⟩
  have hlm : m.length = 12 := hlm
  simp! []
  refine ⟨by omega, ?_⟩
  refine cl (C_take (by decide) (by decide)) ?_
  rintro _ _ ⟨v, a, b, h0, h1, rfl, rfl⟩
  simp! []
  refine OP_mem h0 h1 ?_
  have e1 : List.take (min 12 l.length - 0) (List.drop 0 l) = l.take 12 := by rw [hlen]; rfl
  have all : ∀ y ∈ [D.non, tx [], tx (List.take ((-1 + (l.length : Int)).toNat - 0) (List.drop 0 l)), tx (l ++ [48]), tx (l ++ l), tx [48], tx (List.take (min 12 l.length - 0) (List.drop 0 l)), tx (l ++ m)], ∃ o, y = mD o ∧ MkOK o := by
    simp only [List.forall_mem_cons]
    exact ⟨⟨none, rfl, .none⟩, ⟨some [], rfl, .some (fun _ h => by cases h)⟩, ⟨some _, rfl, .some (bits_take (bits_drop hl _) _)⟩, ⟨some _, rfl, .some (bits_snoc hl (.inl rfl))⟩, ⟨some _, rfl, .some (bits_app hl hl)⟩, ⟨some [48], rfl, .some (fun x h => by rw [List.mem_singleton.mp h]; exact .inl rfl)⟩, ⟨some _, rfl, .some (bits_take (bits_drop hl _) _)⟩, ⟨some _, rfl, .some (bits_app hl hm)⟩, by simp⟩
  intro y hy
  obtain ⟨o, rfl, ho⟩ := all y hy
  simp! []
  exact ⟨o, a, b, ho, rfl, rfl⟩
theorem C_end {n : Nat} {a b r0 f0 p0 : Int} : CL (call tab (n + 3)) g_law_end [(.lst [.int a, .int b], .deep), (.int r0, .deep), (.int f0, .deep), (.int p0, .deep)] fun r os => ∃ (o : Mk) (a b : Int), MkOK o ∧ r = (mD o, .deep) ∧ os = [some (.lst [.int a, .int b], .deep), some (.int r0, .deep), some (.int f0, .deep), some (.int p0, .deep)] := by
  refine cl_law_end ?_
  unfold s_law_end
  simp! []
  refine cl (C_take (by decide) (by decide)) ?_
  rintro _ _ ⟨v, a, b, h0, h1, rfl, rfl⟩
  simp! []
  refine BR_cut (fun E => ∃ a b r1 : Int, E = [some (.lst [.int a, .int b], .deep), some (.int r0, .deep), some (.int f0, .deep), some (.int p0, .deep), some (.int r1, .deep), none, none, none]) ?_ ?_ ?_
  · intro h
    simp! []
    refine cl (C_take (by decide) (by decide)) ?_
    rintro _ _ ⟨v, a, b, h0, h1, rfl, rfl⟩
    simp! []
    exact ⟨_, _, _, rfl⟩
  · intro h
    simp! []
    exact ⟨_, _, _, rfl⟩
  · rintro _ ⟨a, b, r1, rfl⟩
    simp! []
    refine cl (C_take (by decide) (by decide)) ?_
    rintro _ _ ⟨w, a, b, h2, h3, rfl, rfl⟩
    simp! []
    refine cl (C_take (by decide) (by decide)) ?_
    rintro _ _ ⟨q, a, b, h4, h5, rfl, rfl⟩
    simp! []
    refine OP_mem h2 h3 ?_
    have key : ∀ x ∈ ([.int (f0 - 1), .int (f0 + 1), .int (f0 + 1), .int (f0 - p0), .int (f0 + p0), .int (f0 + p0), .int f0, .int q] : List D), ∃ z : Int, x = .int z := by simp
    intro x hx
    obtain ⟨z, rfl⟩ := key x hx
    simp! []
    refine cl (C_take (by decide) (by decide)) ?_
    rintro _ _ ⟨u, a, b, h6, h7, rfl, rfl⟩
    simp! []
    refine BR_d (fun h => ?_) (fun h => ?_)
    · simp! []
      refine cl C_odd_mark ?_
      rintro _ _ ⟨o, a, b, ho, rfl, rfl⟩
      simp! []
      exact ⟨o, a, b, ho, rfl, rfl⟩
    · simp! []
      refine cl (C_law_mark (ms := [r1, _]) (by simp)) ?_
      rintro _ _ ⟨l, hl, hlen, rfl⟩
      simp! []
      exact ⟨some l, a, b, .some hl, rfl, rfl⟩
theorem EX_cutW {Φ : Phi} {s E N R} (M : En → Prop) (h : W.EX Φ s E M R) (k : ∀ E', M E' → N E') : W.EX Φ s E N R := EX.imp h k fun _ _ z => z
theorem C_pair_view {n : Nat} {a b : Int} : CL (call tab (n + 4)) g_law_pair_view [(.lst [.int a, .int b], .deep)] fun r os => ∃ (nm bd : Int) (o : Mk) (es : List End) (a b : Int), MkOK o ∧ (∀ e ∈ es, MkOK e.2.2 ∧ 0 ≤ e.1) ∧ es.length ≤ 31 ∧ r = (viewD nm bd o es, .sh) ∧ os = [some (.lst [.int a, .int b], .deep)] := by
  refine cl_law_pair_view ?_
  unfold s_law_pair_view
  simp! []
  refine cl (C_take (by decide) (by decide)) ?_
  rintro _ _ ⟨v1, a, b, h0, h1, rfl, rfl⟩
  simp! []
  refine cl (C_take (by decide) (by decide)) ?_
  rintro _ _ ⟨v2, a, b, h2, h3, rfl, rfl⟩
  simp! []
  refine cl (C_take (by decide) (by decide)) ?_
  rintro _ _ ⟨v3, a, b, h4, h5, rfl, rfl⟩
  simp! []
  refine OP_mem h4 h5 ?_
  have key : ∀ x ∈ ([.int v1, .int v2] : List D), ∃ z : Int, x = .int z := by simp
  intro x hx
  obtain ⟨nm, rfl⟩ := key x hx
  simp! []
  refine cl (C_take (by decide) (by decide)) ?_
  rintro _ _ ⟨v4, a, b, h6, h7, rfl, rfl⟩
  simp! []
  refine cl (C_take (by decide) (by decide)) ?_
  rintro _ _ ⟨v5, a, b, h8, h9, rfl, rfl⟩
  simp! []
  refine OP_mem (by omega) (by simp; omega) ?_
  have key : ∀ x ∈ ([.int nm, .int ((nm + 1 + v4) % 4096)] : List D), ∃ z : Int, x = .int z := by simp
  intro x hx
  obtain ⟨rt, rfl⟩ := key x hx
  simp! []
  refine cl (C_take (by decide) (by decide)) ?_
  rintro _ _ ⟨v6, a, b, h10, h11, rfl, rfl⟩
  simp! []
  refine cl (C_take (by decide) (by decide)) ?_
  rintro _ _ ⟨v7, a, b, h12, h13, rfl, rfl⟩
  simp! []
  refine cl (C_take (by decide) (by decide)) ?_
  rintro _ _ ⟨v8, a, b, h14, h15, rfl, rfl⟩
  dsimp! []
  refine OP_mem h14 h15 ?_
  have key : ∀ x ∈ ([.int 0, .int v6, .int v7] : List D), ∃ z : Int, x = .int z := by simp
  intro x hx
  obtain ⟨fr, rfl⟩ := key x hx
  dsimp! []
  refine EX_cutW (fun E => ∃ a b fr : Int, E = [some (.lst [.int a, .int b], .deep), some (.int nm, .deep), some (.int rt, .deep), some (.int fr, .deep), none, none, none, none, none, none, none, none, none, none, none, none]) ?_ ?_
  · simp! []
    refine BR_nd (fun h => ?_) (fun h => ?_)
    · simp! []
      refine cl (C_take (by decide) (by decide)) ?_
      rintro _ _ ⟨q, a, b, h16, h17, rfl, rfl⟩
      simp! []
      refine BR_d (fun h => ?_) (fun h => ?_)
      · simp! []
        exact ⟨_, _, _, rfl⟩
      · simp! []
        exact ⟨_, _, _, rfl⟩
    · simp! []
      exact ⟨_, _, _, rfl⟩
  · rintro _ ⟨a, b, fr, rfl⟩
    dsimp! []
    refine EX_cutW (fun E => ∃ a b fr : Int, E = [some (.lst [.int a, .int b], .deep), some (.int nm, .deep), some (.int rt, .deep), some (.int fr, .deep), none, none, none, none, none, none, none, none, none, none, none, none]) ?_ ?_
    · simp! []
      refine BR_d (fun h => ?_) (fun h => ?_)
      · simp! []
        refine cl (C_take (by decide) (by decide)) ?_
        rintro _ _ ⟨q, a, b, h16, h17, rfl, rfl⟩
        simp! []
        refine BR_d (fun h => ?_) (fun h => ?_)
        · simp! []
          exact ⟨_, _, _, rfl⟩
        · simp! []
          exact ⟨_, _, _, rfl⟩
      · simp! []
        exact ⟨_, _, _, rfl⟩
    · rintro _ ⟨a, b, fr, rfl⟩
      simp! []
      refine cl (C_take (by decide) (by decide)) ?_
      rintro _ _ ⟨sm, a, b, h16, h17, rfl, rfl⟩
      simp! []
      refine cl (C_take (by decide) (by decide)) ?_
      rintro _ _ ⟨cm, a, b, h18, h19, rfl, rfl⟩
      simp! []
      refine cl (C_take (by decide) (by decide)) ?_
      rintro _ _ ⟨v9, a, b, h20, h21, rfl, rfl⟩
      simp! []
      refine OP_mem h20 h21 ?_
      have key : ∀ x ∈ ([.int 7, .int 13, .int 31] : List D), ∃ z : Int, x = .int z ∧ 0 < z ∧ z ≤ 31 := by simp
      intro x hx
      obtain ⟨z, rfl, hz0, hz1⟩ := key x hx
      simp! []
      refine cl (C_take (by omega) (by omega)) ?_
      rintro _ _ ⟨my, a, b, h22, h23, rfl, rfl⟩
      simp! []
      refine cl (C_take (by omega) (by omega)) ?_
      rintro _ _ ⟨up, a, b, h24, h25, rfl, rfl⟩
      simp! []
      refine cl (C_take (by omega) (by omega)) ?_
      rintro _ _ ⟨od, a, b, h26, h27, rfl, rfl⟩
      simp! []
      refine ⟨by omega, ?_⟩
      refine FL_r0 (fun k E => ∃ (es : List End) (a b : Int) (o10 o11 o13 o14 o15 : Option Val), es.length = k ∧ (∀ e ∈ es, MkOK e.2.2 ∧ 0 ≤ e.1) ∧ E = [some (.lst [.int a, .int b], .deep), some (.int nm, .deep), some (.int rt, .deep), some (.int fr, .deep), some (.lst (es.map endD), .deep), some (.int sm, .deep), some (.int cm, .deep), some (.int my, .deep), some (.int up, .deep), some (.int od, .deep), o10, o11, none, o13, o14, o15]) ⟨[], a, b, none, none, none, none, none, rfl, by simp, rfl⟩ ?_ ?_
      · rintro k _ hk ⟨es, a, b, o10, o11, o13, o14, o15, hl, he, rfl⟩
        simp! []
        refine cl (C_take (by decide) (by decide)) ?_
        rintro _ _ ⟨v, a, b, h28, h29, rfl, rfl⟩
        simp! []
        refine OP_mem h28 h29 ?_
        have key : ∀ x ∈ ([.int 1, .int 3, .int 60] : List D), ∃ z : Int, x = .int z ∧ 0 < z ∧ z ≤ 60 := by simp
        intro x hx
        obtain ⟨pm, rfl, hp0, hp1⟩ := key x hx
        simp! []
        refine cl (C_take (by omega) (by omega)) ?_
        rintro _ _ ⟨pr, a, b, h30, h31, rfl, rfl⟩
        simp! []
        refine cl (C_take (by decide) (by decide)) ?_
        rintro _ _ ⟨tl, a, b, h32, h33, rfl, rfl⟩
        simp! []
        refine OP_mem h16 h17 ?_
        have key : ∀ x ∈ ([.int (1 + pr), .int 1] : List D), ∃ z : Int, x = .int z := by simp
        intro x hx
        obtain ⟨sp, rfl⟩ := key x hx
        dsimp! []
        refine cl C_end ?_
        rintro _ _ ⟨o, a, b, ho, rfl, rfl⟩
        dsimp! []
        refine EX_cutW (fun E => ∃ o : Mk, MkOK o ∧ E = [some (.lst [.int a, .int b], .deep), some (.int nm, .deep), some (.int rt, .deep), some (.int fr, .deep), some (.lst (es.map endD), .deep), some (.int sm, .deep), some (.int cm, .deep), some (.int my, .deep), some (.int up, .deep), some (.int od, .deep), some (.int k, .deep), some (mD o, .deep), none, some (.int (1 + pr), .deep), some (.bl (decide (tl = 1)), .deep), some (.int sp, .deep)]) ?_ ?_
        · simp! []
          refine BR_d (fun h => ?_) (fun h => ?_)
          · simp! []
            refine BR_nd (fun h => ?_) (fun h => ?_)
            · simp! []
              refine BR_d (fun h => ?_) (fun h => ?_)
              · simp! []
                refine OP_mem (by split <;> decide) (by simp only [List.length_cons, List.length_nil]; split <;> decide) ?_
                have key : ∀ x ∈ ([.int (min 4095 (fr + sp)), .int (max 0 (fr - sp))] : List D), ∃ z : Int, x = .int z := by simp
                intro x hx
                obtain ⟨z, rfl⟩ := key x hx
                simp! []
                refine cl (C_law_mark (ms := [rt, z]) (by simp)) ?_
                rintro _ _ ⟨l, hb, _, rfl⟩
                simp! []
                exact ⟨some l, .some hb, rfl⟩
              · simp! []
                refine cl (C_law_mark (ms := [rt, _]) (by simp)) ?_
                rintro _ _ ⟨l, hb, _, rfl⟩
                simp! []
                exact ⟨some l, .some hb, rfl⟩
            · simp! []
              exact ⟨o, ho, rfl⟩
          · simp! []
            exact ⟨o, ho, rfl⟩
        · rintro _ ⟨o, ho, rfl⟩
          have fin : ∀ T : Bool, ∀ e ∈ es ++ [((1 + pr, T, o) : End)], MkOK e.2.2 ∧ 0 ≤ e.1 := fun T e hm => by
            rcases List.mem_append.mp hm with hm | hm
            · exact he e hm
            · rw [List.mem_singleton.mp hm]; exact ⟨ho, by show (0 : Int) ≤ 1 + pr; omega⟩
          have cat : ∀ T : Bool, es.map endD ++ [D.tup [D.int (1 + pr), D.bl T, mD o]] = (es ++ [((1 + pr, T, o) : End)]).map endD := fun T => by simp [endD]
          simp! []
          refine BR_d (fun h => ?_) (fun h => ?_)
          · simp! []
            rw [cat]
            exact ⟨by omega, _, _, _, _, _, _, _, _, by simp [hl], fin _, rfl⟩
          · simp! []
            refine BR_d (fun h => ?_) (fun h => ?_)
            · simp! []
              rw [cat]
              exact ⟨by omega, _, _, _, _, _, _, _, _, by simp [hl], fin _, rfl⟩
            · simp! []
              rw [cat]
              exact ⟨by omega, _, _, _, _, _, _, _, _, by simp [hl], fin _, rfl⟩
      · rintro _ ⟨es, a, b, o10, o11, o13, o14, o15, hl, he, rfl⟩
        dsimp! []
        refine cl (C_law_mark (ms := [rt, fr]) (by simp)) ?_
        rintro _ _ ⟨l, hb, _, rfl⟩
        dsimp! []
        refine EX_cutW (fun E => ∃ (o : Mk) (a b : Int), MkOK o ∧ E = [some (.lst [.int a, .int b], .deep), some (.int nm, .deep), some (.int rt, .deep), some (.int fr, .deep), some (.lst (es.map endD), .deep), some (.int sm, .deep), some (.int cm, .deep), some (.int my, .deep), some (.int up, .deep), some (.int od, .deep), o10, some (mD o, .deep), none, o13, o14, o15]) ?_ ?_
        · simp! []
          refine cl (C_take (by decide) (by decide)) ?_
          rintro _ _ ⟨v, a, b, h28, h29, rfl, rfl⟩
          simp! []
          refine BR_d (fun h => ?_) (fun h => ?_)
          · simp! []
            refine cl C_odd_mark ?_
            rintro _ _ ⟨o, a, b, ho, rfl, rfl⟩
            simp! []
            exact ⟨o, _, _, ho, rfl⟩
          · simp! []
            exact ⟨some l, _, _, .some hb, rfl⟩
        · rintro _ ⟨o, a, b, ho, rfl⟩
          simp! []
          refine cl (C_take (by decide) (by decide)) ?_
          rintro _ _ ⟨q, a, b, h28, h29, rfl, rfl⟩
          simp! []
          refine cl (C_take (by decide) (by decide)) ?_
          rintro _ _ ⟨q2, a, b, h30, h31, rfl, rfl⟩
          simp! []
          refine OP_mem (by omega) (by simp; omega) ?_
          have key : ∀ x ∈ ([.int (if fr = 0 then 1 else 0), .int q] : List D), ∃ z : Int, x = .int z := by
            simp only [List.forall_mem_cons]
            exact ⟨⟨_, rfl⟩, ⟨_, rfl⟩, by simp⟩
          intro x hx
          obtain ⟨z, rfl⟩ := key x hx
          simp! []
          exact ⟨nm, z, o, es, a, b, ho, he, by omega, rfl, rfl⟩

/-- the two numbers of a mark -/
def readM (m : Mk) : Option (Nat × Nat) := match m with
  | none => none
  | some l => if l.length = 24 then some (bitsN (l.take 12), bitsN ((l.drop 12).take 12)) else none
def rdL (r : Option (Nat × Nat)) : D := match r with
  | none => .non
  | some p => .lst [dn p.1, dn p.2]
def rdT (r : Option (Nat × Nat)) : D := match r with
  | none => .non
  | some p => .tup [dn p.1, dn p.2]
theorem bitV_int {c : Nat} (h : c = 48 ∨ c = 49) : bitV c = c - 48 := by
  rcases h with rfl | rfl <;> rfl
theorem C_law_read {n : Nat} {m : Mk} (hm : MkOK m) : CL (call tab (n + 1)) g_law_read_k39 [(mD m, .deep)] fun r os => r = (rdL (readM m), .deep) := by
  refine cl_law_read_k39 ?_
  unfold s_law_read_k39
  cases m with
  | none =>
    simp! [mD_none]
    rfl
  | some l =>
    have hb : isBits l := hm l rfl
    simp! [mD_some]
    refine BR_nd (fun h => ?_) (fun h => ?_)
    · simp! []
      have h : ¬l.length = 24 := by omega
      unfold readM
      simp only [if_neg h]
      rfl
    · simp! []
      have h : l.length = 24 := by omega
      refine FL_r0 (fun k E => ∃ o, E = [some (tx l, .deep), some (.lst [dn (bitsN ((l.take 12).take k)), dn (bitsN (((l.drop 12).take 12).take (k - 12)))], .deep), o]) ⟨none, rfl⟩ ?_ ?_
      · rintro k _ hk ⟨o, rfl⟩
        have hc := hb _ (List.getElem_mem (show k < l.length by omega))
        have hkl : k < l.length := by omega
        by_cases h12 : k < 12
        · have e0 : bitsN ((l.take 12).take (k + 1)) = 2 * bitsN ((l.take 12).take k) + bitV l[k] := by
            have hk' : k < (l.take 12).length := by simp; omega
            rw [take_succ' hk', bitsN_snoc, List.getElem_take]
          have e1 : ((l.drop 12).take 12).take (k + 1 - 12) = ((l.drop 12).take 12).take (k - 12) := by
            rw [show k + 1 - 12 = 0 by omega, show k - 12 = 0 by omega]
          simp! []
          refine OP_nat 0 (by omega) (by simp) ?_
          simp! [List.getElem_cons_zero]
          refine OP_nat k rfl hkl ?_
          rcases hc with e | e
          · simp! [e]
            refine OP_ixn 0 (by omega) (by decide) ?_
            simp! []
            refine ⟨some (.int k, .deep), ?_⟩
            rw [e0, e1, e]
            rw [show bitV 48 = 0 from rfl]
            simp only [dn, List.cons.injEq, Option.some.injEq, Prod.mk.injEq, D.lst.injEq, D.int.injEq, true_and, and_true]
            omega
          · simp! [e]
            refine OP_ixn 0 (by omega) (by decide) ?_
            simp! []
            refine ⟨some (.int k, .deep), ?_⟩
            rw [e0, e1, e]
            rw [show bitV 49 = 1 from rfl]
            simp only [dn, List.cons.injEq, Option.some.injEq, Prod.mk.injEq, D.lst.injEq, D.int.injEq, true_and, and_true]
            omega
        · have e0 : bitsN (((l.drop 12).take 12).take (k + 1 - 12)) = 2 * bitsN (((l.drop 12).take 12).take (k - 12)) + bitV l[k] := by
            have hk' : k - 12 < ((l.drop 12).take 12).length := by simp; omega
            rw [show k + 1 - 12 = (k - 12) + 1 by omega, take_succ' hk', bitsN_snoc, List.getElem_take, List.getElem_drop]
            simp [show 12 + (k - 12) = k by omega]
          have e1 : (l.take 12).take (k + 1) = (l.take 12).take k := by
            have t1 : (l.take 12).length = 12 := by rw [List.length_take]; omega
            rw [List.take_of_length_le (l := l.take 12) (i := k + 1) (by omega), List.take_of_length_le (l := l.take 12) (i := k) (by omega)]
          simp! []
          refine OP_nat 1 (by omega) (by simp) ?_
          simp! [List.getElem_cons_zero, List.getElem_cons_succ]
          refine OP_nat k rfl hkl ?_
          rcases hc with e | e
          · simp! [e]
            refine OP_ixn 1 (by omega) (by decide) ?_
            simp! []
            refine ⟨some (.int k, .deep), ?_⟩
            rw [e0, e1, e]
            rw [show bitV 48 = 0 from rfl]
            simp only [dn, List.cons.injEq, Option.some.injEq, Prod.mk.injEq, D.lst.injEq, D.int.injEq, true_and, and_true]
            omega
          · simp! [e]
            refine OP_ixn 1 (by omega) (by decide) ?_
            simp! []
            refine ⟨some (.int k, .deep), ?_⟩
            rw [e0, e1, e]
            rw [show bitV 49 = 1 from rfl]
            simp only [dn, List.cons.injEq, Option.some.injEq, Prod.mk.injEq, D.lst.injEq, D.int.injEq, true_and, and_true]
            omega
      · rintro _ ⟨o, rfl⟩
        simp! []
        unfold readM
        simp only [if_pos h]
        rw [List.take_of_length_le (show (l.take 12).length ≤ 24 by simp; omega), List.take_of_length_le (show ((l.drop 12).take 12).length ≤ 24 - 12 by simp; omega)]
        rfl
theorem C_is_mark_none {n : Nat} : CL (call tab (n + 1)) g_is_mark [(.non, .deep)] fun r os => r = (.bl false, .deep) := by
  refine cl_is_mark ?_
  unfold s_is_mark
  simp! []
theorem C_fields_none {n : Nat} : CL (call tab (n + 2)) g_fields_of [(.non, .deep)] fun r os => r = (.non, .deep) := by
  refine cl_fields_of ?_
  unfold s_fields_of
  simp! []
  refine cl C_is_mark_none ?_
  rintro _ _ rfl
  simp! []
theorem C_pair_of {n : Nat} {m : Mk} (hm : MkOK m) : CL (call tab (n + 3)) g_pair_of [(mD m, .deep)] fun r os => r = (rdT (readM m), .deep) := by
  cases m with
  | none =>
    rw [mD_none]
    refine cl_pair_of ?_
    unfold s_pair_of
    simp! []
    refine cl C_fields_none ?_
    rintro _ _ rfl
    simp! []
    rfl
  | some l =>
    have hb : isBits l := hm l rfl
    rw [mD_some]
    refine cl_pair_of ?_
    unfold s_pair_of
    simp! []
    refine cl C_fields_of ?_
    rintro _ _ rfl
    unfold fldE readM
    by_cases hM : isMk l ∧ l.length % 12 = 0
    · rw [if_pos hM]
      simp! []
      have hf : (fieldsN l).length = l.length / 12 := by unfold fieldsN; rw [List.length_map, List.length_range]
      refine BR_nd (fun h => ?_) (fun h => ?_)
      · simp! []
        rw [if_neg (by omega)]
        rfl
      · have h24 : l.length = 24 := by omega
        have hF : fieldsN l = [bitsN (l.take 12), bitsN ((l.drop 12).take 12)] := by
          unfold fieldsN
          rw [show l.length / 12 = 2 by omega]
          rfl
        rw [hF]
        simp! []
        rw [if_pos h24]
        rfl
    · rw [if_neg hM]
      simp! []
      have h24 : ¬l.length = 24 := fun z => hM ⟨⟨hb, by omega⟩, by omega⟩
      simp only [if_neg h24]
      rfl

def okE (r : Nat) (e : End) : Bool := match readM e.2.2 with
  | some q => decide (q.1 = r)
  | none => false
def farE (e : End) : Nat := match readM e.2.2 with
  | some q => q.2
  | none => 0
def pairsV (o : Mk) (es : List End) : Option (Nat × Nat) := match readM o with
  | none => none
  | some p => if es.all (okE p.1) = true then some p else none
def prD (es : List End) (p : Option (Nat × Nat)) : D := match p with
  | none => .non
  | some p => .tup [dn p.1, dn p.2, .lst (es.map fun e => dn (farE e))]
theorem rdL_some {p : Nat × Nat} : rdL (some p) = .lst [dn p.1, dn p.2] := rfl
theorem rdL_none : rdL none = .non := rfl
theorem a2_in_rd {es : List End} : app2 .In .non (.lst (es.map fun e => rdL (readM e.2.2))) = some (.bl (es.any fun e => (readM e.2.2).isNone)) := by
  have h : shps 29 (es.map fun e => rdL (readM e.2.2)) = true := shps_map (f := fun e : End => rdL (readM e.2.2)) (fun e => by cases readM e.2.2 <;> rfl)
  show (if _ then _ else _) = _
  rw [h, if_pos (by simp [shp]), List.any_map]
  congr 3
  funext e
  show deq (rdL (readM e.2.2)) .non = _
  cases readM e.2.2 <;> rfl
theorem C_law_pairs {n : Nat} {w : Ow} {a b : Int} {o : Mk} {es : List End} (hl : es.length ≤ 1000) (ho : MkOK o) (he : ∀ e ∈ es, MkOK e.2.2) : CL (call tab (n + 2)) g_law_pairs_k39 [(viewD a b o es, w)] fun r os => r = (prD es (pairsV o es), .deep) := by
  refine cl_law_pairs_k39 ?_
  unfold s_law_pairs_k39 viewD
  simp! []
  refine cl (C_law_read ho) ?_
  rintro _ _ rfl
  simp! []
  refine ⟨by omega, CP_pure endD (fun _ => true) (fun e => rdL (readM e.2.2)) ?_ ?_⟩
  · intro e hm
    simp! [endD]
    refine cl (C_law_read (he e hm)) ?_
    rintro _ _ rfl
    simp! []
  · cases hr : readM o with
    | none =>
      simp! [rdL]
      unfold pairsV
      rw [hr]
      rfl
    | some p =>
      simp! [rdL_some, a2_in_rd, -a2_inl]
      refine BR_b (fun h => ?_) (fun h => ?_)
      · simp! []
        unfold pairsV
        rw [hr]
        obtain ⟨e, hm, hn⟩ := List.any_eq_true.mp h
        simp only
        rw [if_neg]
        · rfl
        · intro z
          have := List.all_eq_true.mp z e hm
          unfold okE at this
          rw [Option.isNone_iff_eq_none.mp hn] at this
          cases this
      · have hs : ∀ e ∈ es, ∃ q, readM e.2.2 = some q := fun e hm => by
          have := List.any_eq_false.mp h e hm
          cases hq : readM e.2.2 with
          | none => rw [hq] at this; simp at this
          | some q => exact ⟨q, rfl⟩
        have shp_rd : ∀ l : List End, shps 29 (l.map fun e => rdL (readM e.2.2)) = true := fun l => shps_map (f := fun e : End => rdL (readM e.2.2)) (fun e => by cases readM e.2.2 <;> rfl)
        cases hp : plains (es.map fun e => rdL (readM e.2.2))
        all_goals
          simp! [hp]
          refine ⟨by omega, CP_pure (fun e : End => rdL (readM e.2.2)) (fun e => !okE p.1 e) (fun e => rdL (readM e.2.2)) ?_ ?_⟩
          · intro e hm
            obtain ⟨q, hq⟩ := hs e hm
            have ho : okE p.1 e = decide (q.1 = p.1) := by unfold okE; rw [hq]
            simp! [hq, rdL_some, ho, Int.natCast_inj]
          · simp! [shp_rd]
            refine BR_b (fun hf => ?_) (fun hf => ?_)
            · simp! []
              unfold pairsV
              rw [hr]
              simp only
              rw [if_neg]
              · rfl
              · intro z
                have : es.filter (fun e => !okE p.1 e) = [] := List.filter_eq_nil_iff.mpr fun e hm => by rw [List.all_eq_true.mp z e hm]; simp
                rw [this] at hf
                simp at hf
            · simp! [hp]
              refine ⟨by omega, CP_pure (fun e : End => rdL (readM e.2.2)) (fun _ => true) (fun e => dn (farE e)) ?_ ?_⟩
              · intro e hm
                obtain ⟨q, hq⟩ := hs e hm
                have hF : farE e = q.2 := by unfold farE; rw [hq]
                simp! [hq, rdL_some, hF]
              · have hall : es.all (okE p.1) = true := by
                  rw [List.all_eq_true]
                  intro e hm
                  have hf' : (es.filter fun e => !okE p.1 e) = [] := List.isEmpty_iff.mp (by simpa using hf)
                  have := List.filter_eq_nil_iff.mp hf' e hm
                  simpa using this
                simp! []
                unfold pairsV
                rw [hr]
                simp only
                rw [if_pos hall]
                rfl

def efD (e : End) : D := .tup [.int e.1, .bl e.2.1, dn (farE e)]
theorem plain_ef {e} : plain (efD e) = true := rfl
theorem plains_ef {es : List End} : plains (es.map efD) = true := plains_map fun _ _ => plain_ef
def ptD (es : List End) (p : Option (Nat × Nat)) : D := match p with
  | none => .non
  | some p => .tup [dn p.1, dn p.2, .lst (es.map efD)]
def flP (p : Option (Nat × Nat)) : Ow := match p with
  | none => .deep
  | some _ => .sh
theorem rdT_some {p : Nat × Nat} : rdT (some p) = .tup [dn p.1, dn p.2] := rfl
theorem rdT_none : rdT none = .non := rfl
theorem C_pairs_of {n : Nat} {a b : Int} {o : Mk} {es : List End} (hl : es.length ≤ 1000) (ho : MkOK o) (he : ∀ e ∈ es, MkOK e.2.2) : CL (call tab (n + 4)) g_pairs_of [(viewD a b o es, .sh)] fun r os => r = (ptD es (pairsV o es), flP (pairsV o es)) := by
  refine cl_pairs_of ?_
  unfold s_pairs_of viewD
  simp! []
  refine cl (C_pair_of ho) ?_
  rintro _ _ rfl
  cases hr : readM o with
  | none =>
    simp! [rdT_none]
    unfold pairsV
    rw [hr]
    rfl
  | some p =>
    simp! [rdT_some]
    refine FL_ix (fun k E => (es.take k).all (okE p.1) = true ∧ ∃ o3 o4 o5 o6, E = [some (.tup [.int a, .int b, mD o, .lst (es.map endD)], .sh), some (.tup [dn p.1, dn p.2], .deep), some (.lst ((es.take k).map efD), .deep), o3, o4, o5, o6]) ⟨rfl, none, none, none, none, rfl⟩ ?_ ?_
    · rintro k _ hk ⟨ha, o3, o4, o5, o6, rfl⟩
      have hk : k < es.length := by simpa using hk
      have hm : MkOK es[k].2.2 := he _ (List.getElem_mem hk)
      have bad : okE p.1 es[k] = false → pairsV o es = none := fun z => by
        unfold pairsV
        rw [hr]
        simp only
        rw [if_neg]
        intro y
        rw [List.all_eq_true.mp y _ (List.getElem_mem hk)] at z
        cases z
      simp! [List.getElem_map, endD]
      refine cl (C_pair_of hm) ?_
      rintro _ _ rfl
      cases hq : readM es[k].2.2 with
      | none =>
        simp! [rdT_none]
        rw [bad (by unfold okE; rw [hq])]
        rfl
      | some q =>
        simp! [rdT_some]
        refine BR_nd (fun h => ?_) (fun h => ?_)
        · simp! []
          rw [bad (by unfold okE; rw [hq]; simpa using fun z => h (by rw [z]))]
          rfl
        · have hk1 : okE p.1 es[k] = true := by unfold okE; rw [hq]; simpa using Int.ofNat.inj h
          have hF : farE es[k] = q.2 := by unfold farE; rw [hq]
          have cat : (es.take k).map efD ++ [D.tup [D.int es[k].1, D.bl es[k].2.1, D.int (q.2 : Int)]] = (es.take (k + 1)).map efD := by
            rw [take_succ' hk, List.map_append, List.map_singleton]
            unfold efD
            rw [hF]
            rfl
          simp! []
          rw [cat]
          refine ⟨by simp; omega, by rw [take_succ' hk, List.all_append, ha]; simpa using hk1, _, _, _, _, rfl⟩
    · rintro _ ⟨ha, o3, o4, o5, o6, rfl⟩
      rw [List.length_map, List.take_length] at ha
      simp only [List.length_map, List.take_length]
      simp! []
      unfold pairsV
      rw [hr]
      simp only
      rw [if_pos ha]
      rfl
theorem ptD_some {es : List End} {p : Nat × Nat} : ptD es (some p) = .tup [dn p.1, dn p.2, .lst (es.map efD)] := rfl
theorem ptD_none {es : List End} : ptD es none = .non := rfl
theorem prD_some {es : List End} {p : Nat × Nat} : prD es (some p) = .tup [dn p.1, dn p.2, .lst (es.map fun e => dn (farE e))] := rfl
theorem prD_none {es : List End} : prD es none = .non := rfl
theorem flP_some {p} : flP (some p) = .sh := rfl
theorem flP_none : flP none = .deep := rfl
theorem any_filter {α : Type} {p : α → Bool} : ∀ {l : List α}, (!(l.filter p).isEmpty) = l.any p
  | [] => rfl
  | a :: l => by
    rw [List.any_cons, List.filter_cons, ← any_filter (l := l)]
    cases p a <;> simp
def oddBad (a : Int) (p : Nat × Nat) : Prop := ¬(decide ((p.2 : Int) = 0) = decide ((p.1 : Int) = a))
instance {a p} : Decidable (oddBad a p) := by unfold oddBad; infer_instance
def oddV (a : Int) (o : Mk) (es : List End) : Bool := match pairsV o es with
  | none => false
  | some p => if oddBad a p then false else if (p.2 : Int) = 0 then es.any (fun e => decide ((farE e : Int) % 2 = 0)) else es.any (fun e => decide ((farE e : Int) = p.2 - 1))
theorem C_says_odd {n : Nat} {a b : Int} {o : Mk} {es : List End} (hl : es.length ≤ 1000) (ho : MkOK o) (he : ∀ e ∈ es, MkOK e.2.2) : CL (call tab (n + 5)) g_says_odd [(viewD a b o es, .sh)] fun r os => r = (.bl (oddV a o es), .deep) := by
  refine cl_says_odd ?_
  unfold s_says_odd
  have hv : viewD a b o es = .tup [.int a, .int b, mD o, .lst (es.map endD)] := rfl
  simp! []
  refine cl (C_pairs_of hl ho he) ?_
  rintro _ _ rfl
  rw [hv]
  cases hP : pairsV o es with
  | none =>
    simp! [ptD_none, flP_none]
    unfold oddV
    rw [hP]
  | some p =>
    have eo : oddV a o es = (if oddBad a p then false else if (p.2 : Int) = 0 then es.any (fun e => decide ((farE e : Int) % 2 = 0)) else es.any (fun e => decide ((farE e : Int) = p.2 - 1))) := by
      unfold oddV
      rw [hP]
    simp! [ptD_some, flP_some, plain_ef, plains_ef]
    refine BR_nd (fun h => ?_) (fun h => ?_)
    · simp! []
      rw [eo, if_pos (show oddBad a p from h)]
    · rw [if_neg (show ¬oddBad a p from fun z => z h)] at eo
      simp! []
      refine BR_d (fun h0 => ?_) (fun h0 => ?_)
      · rw [if_pos h0] at eo
        have hp : plains (es.map efD) = true := plains_ef
        simp! [hp]
        refine ⟨by omega, CP_pure efD (fun e => decide ((farE e : Int) % 2 = 0)) efD ?_ ?_⟩
        · intro e hm
          have hv' : vl (efD e) .sh = (efD e, .deep) := vl_t plain_ef
          simp! [efD, hv']
        · simp! [hp, any_filter]
          rw [eo]
          exact ⟨shps_map (f := efD) (fun e => rfl), rfl⟩
      · rw [if_neg h0] at eo
        have hp : plains (es.map efD) = true := plains_ef
        simp! [hp]
        refine ⟨by omega, CP_pure efD (fun e => decide ((farE e : Int) = p.2 - 1)) efD ?_ ?_⟩
        · intro e hm
          have hv' : vl (efD e) .sh = (efD e, .deep) := vl_t plain_ef
          simp! [efD, hv']
        · simp! [hp, any_filter]
          rw [eo]
          exact ⟨shps_map (f := efD) (fun e => rfl), rfl⟩

theorem C_says_od {n : Nat} {a b : Int} {o : Mk} {es : List End} (hl : es.length ≤ 1000) (ho : MkOK o) (he : ∀ e ∈ es, MkOK e.2.2) : CL (call tab (n + 6)) g_says_k39 [(.tup [tx [111, 100, 100]], .deep), (viewD a b o es, .sh)] fun r os => r = (.bl (oddV a o es), .deep) := by
  refine cl_says_k39 ?_
  unfold s_says_k39
  simp! [List.cons.injEq, Nat.reduceEqDiff, dput_eq]
  refine cl (C_says_odd hl ho he) ?_
  rintro _ _ rfl
  simp! []
theorem a2_in_dn {es : List End} {z : Int} : app2 .In (.int z) (.lst (es.map fun e => D.int (farE e : Int))) = some (.bl (es.any fun e => decide ((farE e : Int) = z))) := by
  rw [show (es.map fun e => D.int (farE e : Int)) = (es.map farE).map dn by simp [dn], a2_inl, scalars_dn]
  show (if (true && true || _) = true then _ else _) = _
  rw [if_pos (by rfl), List.any_map, List.any_map]
  congr 3
theorem EX_ifFw {Φ : Phi} {c a b E N R} (h : W.EV Φ c E fun x E1 => x.1 = .bl false ∧ W.EX Φ b E1 N R) : W.EX Φ (.ite c a b) E N R := EX_ite.mpr (EV.imp h fun x E1 ⟨hx, k⟩ => .inr ⟨hx, k⟩)
theorem pairsV_rev {o : Mk} {es : List End} : pairsV o es.reverse = pairsV o es := by
  unfold pairsV
  cases readM o with
  | none => rfl
  | some p =>
    simp only
    rw [List.all_reverse]
theorem oddV_rev {a : Int} {o : Mk} {es : List End} : oddV a o es.reverse = oddV a o es := by
  unfold oddV
  rw [pairsV_rev]
  cases pairsV o es with
  | none => rfl
  | some p =>
    simp only
    rw [List.any_reverse, List.any_reverse]

def fallsV (f : Int) (l : List Int) : Bool := l.all (fun x => decide (x = f - 1 ∨ x = f + 1)) && (decide (f = 0) || decide ((l.filter fun x => decide (x < f)).length = 1))
theorem falls_count {f : Int} : ∀ {l : List Int}, l.all (fun x => decide (x = f - 1 ∨ x = f + 1)) = true → (l.filter fun x => decide (x < f)).length = l.count (f - 1)
  | [], _ => rfl
  | x :: l, h => by
    rw [List.all_cons, Bool.and_eq_true, decide_eq_true_eq] at h
    have ih := falls_count h.2
    rw [List.filter_cons, List.count_cons]
    rcases h.1 with rfl | rfl
    · simp [ih, show f - 1 < f by omega]
    · simp [ih, show ¬f + 1 < f by omega, show ¬f + 1 = f - 1 by omega]
theorem fallsV_count {f : Int} {l : List Int} : fallsV f l = (l.all (fun x => decide (x = f - 1 ∨ x = f + 1)) && (decide (f = 0) || decide (l.count (f - 1) = 1))) := by
  unfold fallsV
  cases h : l.all (fun x => decide (x = f - 1 ∨ x = f + 1)) with
  | false => rfl
  | true => rw [falls_count h]
theorem C_falls {n : Nat} {α : Type} {w : Ow} {far : Int} {l : List α} {f : α → Int} (hl : l.length ≤ 1000) : CL (call tab (n + 1)) g_falls_to_one [(.int far, .deep), (.lst (l.map fun x => D.int (f x)), w)] fun r os => r = (.bl (fallsV far (l.map f)), .deep) := by
  refine cl_falls_to_one ?_
  unfold s_falls_to_one
  have pl : plains (l.map fun x => D.int (f x)) = true := plains_map fun _ _ => rfl
  simp! [pl]
  refine FL_ix (fun k E => ((l.take k).map f).all (fun x => decide (x = far - 1 ∨ x = far + 1)) = true ∧ ∃ o, (o = none ∨ ∃ z, o = some (.int z, .deep)) ∧ E = [some (.int far, .deep), some (.lst (l.map fun x => D.int (f x)), w), o]) ⟨rfl, none, .inl rfl, rfl⟩ ?_ ?_
  · rintro k _ hk ⟨ha, o, _, rfl⟩
    have hk : k < l.length := by simpa using hk
    simp! [List.getElem_map]
    refine BR_nd (fun h => ?_) (fun h => ?_)
    · simp! []
      unfold fallsV
      rw [show (l.map f).all (fun x => decide (x = far - 1 ∨ x = far + 1)) = false from List.all_eq_false.mpr ⟨f l[k], List.mem_map_of_mem (List.getElem_mem hk), by
        rw [decide_eq_true_eq]
        intro z
        apply h
        split <;> omega⟩]
      rfl
    · simp! []
      refine ⟨?_, _, .inr ⟨_, rfl⟩, rfl⟩
      rw [take_succ' hk, List.map_append, List.all_append, ha]
      simp only [List.map_cons, List.map_nil, List.all_cons, List.all_nil, Bool.and_true, Bool.true_and, decide_eq_true_eq]
      split at h <;> omega
  · rintro _ ⟨ha, o, hO, rfl⟩
    rw [List.length_map, List.take_length] at ha
    have ho : KP 0 [o] = true := by rcases hO with rfl | ⟨z, rfl⟩ <;> rfl
    simp! [pl]
    have e : fallsV far (l.map f) = (decide (far = 0) || decide (((l.map f).filter fun x => decide (x < far)).length = 1)) := by
      unfold fallsV
      rw [ha]
      rfl
    rw [e]
    refine BR_d (fun h => ?_) (fun h => ?_)
    · simp! []
      rw [h]
      simp
    · simp! [pl]
      have hp : ∀ x : α, vl (D.int (f x)) .sh = (D.int (f x), .deep) := fun x => rfl
      refine ⟨⟨by omega, ho⟩, CP_pure (fun x => D.int (f x)) (fun x => decide (f x < far)) (fun x => D.int (f x)) ?_ ?_⟩
      · intro x hx
        simp! []
      · simp! []
        rw [decide_eq_false h, Bool.false_or, List.filter_map, List.length_map]
        congr 2
        simp only [Function.comp_def]
        rw [Bool.eq_iff_iff, decide_eq_true_eq, decide_eq_true_eq]
        omega
def treeV (al : Bool) (a : Int) (o : Mk) (es : List End) : Bool := match pairsV o es with
  | none => false
  | some p => if oddBad a p then false else fallsV p.2 ((es.filter fun e => e.2.1 || !al).map fun e => (farE e : Int))
theorem treeV_none {al a o es} (h : pairsV o es = none) : treeV al a o es = false := by unfold treeV; rw [h]
theorem treeV_some {al a o es p} (h : pairsV o es = some p) : treeV al a o es = if oddBad a p then false else fallsV p.2 ((es.filter fun e => e.2.1 || !al).map fun e => (farE e : Int)) := by unfold treeV; rw [h]
theorem C_tree_by {n : Nat} {a : Int} {es : List End} {p : Nat × Nat} (hl : es.length ≤ 1000) : CL (call tab (n + 2)) g_says_tree_by [(.int a, .deep), (.tup [dn p.1, dn p.2, .lst (es.map efD)], .sh)] fun r os => r = (.bl (if oddBad a p then false else fallsV p.2 ((es.filter fun e => e.2.1).map fun e => (farE e : Int))), .deep) := by
  refine cl_says_tree_by ?_
  unfold s_says_tree_by
  simp! []
  refine BR_nd (fun h => ?_) (fun h => ?_)
  · simp! []
    rw [if_pos (show oddBad a p from h)]
  · rw [if_neg (show ¬oddBad a p from fun z => z h)]
    have pe : plains (es.map efD) = true := plains_ef
    simp! [pe]
    refine ⟨by omega, CP_pure efD (fun e => e.2.1) (fun e => D.int (farE e : Int)) ?_ ?_⟩
    · intro e hm
      have hv' : vl (efD e) .sh = (efD e, .deep) := vl_t plain_ef
      simp! [efD, hv']
    · simp! []
      refine cl (C_falls (Nat.le_trans (List.length_filter_le _ _) hl)) ?_
      rintro _ _ rfl
      simp! []
theorem C_says_tree {n : Nat} {a b : Int} {o : Mk} {es : List End} (hl : es.length ≤ 1000) (ho : MkOK o) (he : ∀ e ∈ es, MkOK e.2.2) : CL (call tab (n + 5)) g_says_tree [(viewD a b o es, .sh)] fun r os => r = (.bl (treeV true a o es), .deep) := by
  refine cl_says_tree ?_
  unfold s_says_tree
  have hv : viewD a b o es = .tup [.int a, .int b, mD o, .lst (es.map endD)] := rfl
  simp! []
  refine cl (C_pairs_of hl ho he) ?_
  rintro _ _ rfl
  rw [hv]
  cases hP : pairsV o es with
  | none =>
    simp! [ptD_none, flP_none]
    rw [treeV_none hP]
  | some p =>
    simp! [ptD_some, flP_some, plain_ef, plains_ef]
    refine cl (C_tree_by hl) ?_
    rintro _ _ rfl
    simp! []
    rw [treeV_some hP]
    simp only [Bool.not_true, Bool.or_false]
theorem C_says_bare {n : Nat} {a b : Int} {o : Mk} {es : List End} (hl : es.length ≤ 1000) (ho : MkOK o) (he : ∀ e ∈ es, MkOK e.2.2) : CL (call tab (n + 5)) g_says_bare [(viewD a b o es, .sh)] fun r os => r = (.bl (treeV false a o es), .deep) := by
  refine cl_says_bare ?_
  unfold s_says_bare
  have hv : viewD a b o es = .tup [.int a, .int b, mD o, .lst (es.map endD)] := rfl
  simp! []
  refine cl (C_pairs_of hl ho he) ?_
  rintro _ _ rfl
  rw [hv]
  cases hP : pairsV o es with
  | none =>
    simp! [ptD_none, flP_none]
    rw [treeV_none hP]
  | some p =>
    have pe : plains (es.map efD) = true := plains_ef
    simp! [ptD_some, flP_some, plain_ef, plains_ef]
    rw [treeV_some hP]
    refine BR_d (fun h => ?_) (fun h => ?_)
    · rw [if_neg (show ¬oddBad a p from fun z => z h)]
      simp! [pe]
      refine ⟨by omega, CP_pure efD (fun e => true) (fun e => D.int (farE e : Int)) ?_ ?_⟩
      · intro e hm
        have hv' : vl (efD e) .sh = (efD e, .deep) := vl_t plain_ef
        simp! [efD, hv']
      · simp! []
        refine cl (C_falls hl) ?_
        rintro _ _ rfl
        simp! []
    · rw [if_pos (show oddBad a p from h)]
      simp! []
theorem C_says_tr {n : Nat} {a b : Int} {o : Mk} {es : List End} (hl : es.length ≤ 1000) (ho : MkOK o) (he : ∀ e ∈ es, MkOK e.2.2) : CL (call tab (n + 6)) g_says_k39 [(.tup [tx [116, 114, 101, 101]], .deep), (viewD a b o es, .sh)] fun r os => r = (.bl (treeV true a o es), .deep) := by
  refine cl_says_k39 ?_
  unfold s_says_k39
  simp! [List.cons.injEq, Nat.reduceEqDiff, dput_eq]
  refine cl (C_says_tree hl ho he) ?_
  rintro _ _ rfl
  simp! []
theorem C_says_ba {n : Nat} {a b : Int} {o : Mk} {es : List End} (hl : es.length ≤ 1000) (ho : MkOK o) (he : ∀ e ∈ es, MkOK e.2.2) : CL (call tab (n + 6)) g_says_k39 [(.tup [tx [98, 97, 114, 101]], .deep), (viewD a b o es, .sh)] fun r os => r = (.bl (treeV false a o es), .deep) := by
  refine cl_says_k39 ?_
  unfold s_says_k39
  simp! [List.cons.injEq, Nat.reduceEqDiff, dput_eq]
  refine cl (C_says_bare hl ho he) ?_
  rintro _ _ rfl
  simp! []

theorem zip0_self {α : Type} {f g : α → D} : ∀ {l : List α}, zip0 (l.map f) (l.map g) = l.map fun x => .tup [f x, g x]
  | [] => by simp [zip0]
  | a :: l => by simp only [List.map_cons, zip0]; rw [zip0_self]
theorem a2_count' {α : Type} {l : List α} {f : α → Int} {i : Int} : app2 .count (.lst (l.map fun x => D.int (f x))) (.int i) = some (.int ((l.map f).count i : Nat)) := by
  rw [show (l.map fun x => D.int (f x)) = (l.map f).map D.int by simp]
  exact a2_count

def nearBad (a b : Int) (p : Nat × Nat) : Bool := !decide (decide ((p.2 : Int) = 0) = decide ((p.1 : Int) = a)) || !decide (decide ((p.2 : Int) = 0) = decide (b = 1))
def nearOK (f : Int) (e : End) : Bool := decide (f ≤ (farE e : Int) + e.1) && (!e.2.1 || decide (f = (farE e : Int) + e.1) || decide (f = (farE e : Int) - e.1))
def nearUp (f : Int) (e : End) : Bool := e.2.1 && decide ((farE e : Int) + e.1 = f)
def nearV (a b : Int) (o : Mk) (es : List End) : Bool := match pairsV o es with
  | none => false
  | some p => if nearBad a b p = true then false else es.all (nearOK p.2) && (decide ((p.2 : Int) = 0) || decide ((es.filter (nearUp p.2)).length = 1))
theorem nearV_none {a b o es} (h : pairsV o es = none) : nearV a b o es = false := by unfold nearV; rw [h]
theorem nearV_some {a b o es p} (h : pairsV o es = some p) : nearV a b o es = if nearBad a b p = true then false else es.all (nearOK p.2) && (decide ((p.2 : Int) = 0) || decide ((es.filter (nearUp p.2)).length = 1)) := by unfold nearV; rw [h]
theorem C_says_near {n : Nat} {a b : Int} {o : Mk} {es : List End} (hl : es.length ≤ 1000) (ho : MkOK o) (he : ∀ e ∈ es, MkOK e.2.2 ∧ 0 ≤ e.1) : CL (call tab (n + 5)) g_says_near_k39 [(viewD a b o es, .sh)] fun r os => r = (.bl (nearV a b o es), .deep) := by
  refine cl_says_near_k39 ?_
  unfold s_says_near_k39
  have hv : viewD a b o es = .tup [.int a, .int b, mD o, .lst (es.map endD)] := rfl
  simp! []
  refine cl (C_pairs_of hl ho fun e h => (he e h).1) ?_
  rintro _ _ rfl
  rw [hv]
  cases hP : pairsV o es with
  | none =>
    simp! [ptD_none, flP_none]
    rw [nearV_none hP]
  | some p =>
    have pe : plains (es.map efD) = true := plains_ef
    rw [nearV_some hP]
    dsimp! [ptD_some, flP_some, plain_ef, plains_ef]
    refine EX_ifF ?_ ?_
    · simp! []
    dsimp! [pe]
    refine EX_if (nearBad a b p) ?_ (fun h => ?_) (fun h => ?_)
    · simp! []
      unfold nearBad
      cases h : decide (decide ((p.2 : Int) = 0) = decide ((p.1 : Int) = a)) <;> simp! []
    · simp! []
      rw [if_pos h]
    · rw [if_neg (by rw [h]; decide)]
      simp! [pe]
      refine FL_ix (fun k E => (es.take k).all (nearOK p.2) = true ∧ ∃ o6 o7 o8, E = [some (.tup [.int a, .int b, mD o, .lst (es.map endD)], .sh), some (.tup [dn p.1, dn p.2, .lst (es.map efD)], .sh), some (.int (((es.take k).filter (nearUp p.2)).length : Nat), .deep), some (dn p.1, .deep), some (dn p.2, .deep), some (.lst (es.map efD), .sh), o6, o7, o8]) ⟨rfl, none, none, none, rfl⟩ ?_ ?_
      · rintro k _ hk ⟨ha, o6, o7, o8, rfl⟩
        have hk : k < es.length := by simpa using hk
        have hp := (he es[k] (List.getElem_mem hk)).2
        dsimp! [List.getElem_map, efD]
        refine EX_if (!nearOK p.2 es[k]) ?_ (fun h => ?_) (fun h => ?_)
        · simp! []
          refine BR_d (fun h1 => ?_) (fun h1 => ?_)
          · simp! []
            refine congrArg D.bl ?_
            unfold nearOK
            rw [decide_eq_false (show ¬(p.2 : Int) ≤ (farE es[k] : Int) + es[k].1 by omega)]
            rfl
          · cases ht : es[k].2.1 with
            | false =>
              simp! [ht]
              refine congrArg D.bl ?_
              unfold nearOK
              rw [decide_eq_true (show (p.2 : Int) ≤ (farE es[k] : Int) + es[k].1 by omega), ht]
              rfl
            | true =>
              simp! [ht]
              refine congrArg D.bl ?_
              unfold nearOK
              rw [decide_eq_true (show (p.2 : Int) ≤ (farE es[k] : Int) + es[k].1 by omega), ht, Bool.eq_iff_iff]
              simp only [Bool.true_and, Bool.not_true, Bool.false_or, Bool.not_eq_true', decide_eq_false_iff_not, Bool.or_eq_false_iff]
              split <;> omega
        · simp! []
          rw [show es.all (nearOK p.2) = false from List.all_eq_false.mpr ⟨es[k], List.getElem_mem hk, by simpa using h⟩]
          rfl
        · have hall : (es.take (k + 1)).all (nearOK p.2) = true := by rw [take_succ' hk, List.all_append, ha]; simpa using h
          have hU : (((es.take (k + 1)).filter (nearUp p.2)).length : Int) = ((es.take k).filter (nearUp p.2)).length + (if nearUp p.2 es[k] = true then 1 else 0) := by
            rw [take_succ' hk, List.filter_append, List.length_append]
            cases hu : nearUp p.2 es[k] <;> simp [hu]
          simp! []
          cases ht : es[k].2.1 with
          | false =>
            simp! [ht]
            refine ⟨hall, some (.int es[k].1, .deep), some (.bl false, .deep), some (.int (farE es[k]), .deep), ?_⟩
            rw [hU, show nearUp p.2 es[k] = false by unfold nearUp; rw [ht]; rfl]
            rfl
          | true =>
            simp! [ht]
            refine ⟨hall, some (.int es[k].1, .deep), some (.bl true, .deep), some (.int (farE es[k]), .deep), ?_⟩
            rw [hU, show nearUp p.2 es[k] = decide ((farE es[k] : Int) + es[k].1 = p.2) by unfold nearUp; rw [ht]; rfl]
            simp only [decide_eq_true_eq]
      · rintro _ ⟨ha, o6, o7, o8, rfl⟩
        rw [List.length_map, List.take_length] at ha
        simp only [List.length_map, List.take_length]
        rw [ha]
        simp! []
        refine BR_d (fun h => ?_) (fun h => ?_)
        · simp! []
          rw [decide_eq_true h]
          rfl
        · simp! []
          rw [decide_eq_false h]
          exact congrArg (fun b => (D.bl b, Ow.deep)) (decide_eq_decide.mpr (by omega))
theorem C_says_ne {n : Nat} {a b : Int} {o : Mk} {es : List End} (hl : es.length ≤ 1000) (ho : MkOK o) (he : ∀ e ∈ es, MkOK e.2.2 ∧ 0 ≤ e.1) : CL (call tab (n + 6)) g_says_k39 [(.tup [tx [110, 101, 97, 114]], .deep), (viewD a b o es, .sh)] fun r os => r = (.bl (nearV a b o es), .deep) := by
  refine cl_says_k39 ?_
  unfold s_says_k39
  simp! [List.cons.injEq, Nat.reduceEqDiff, dput_eq]
  refine cl (C_says_near hl ho he) ?_
  rintro _ _ rfl
  simp! []
theorem C_due_k40 {n : Nat} {w : Ow} {a b : Int} {o : Mk} {es : List End} (hl : es.length ≤ 1000) (ho : MkOK o) (he : ∀ e ∈ es, MkOK e.2.2 ∧ 0 ≤ e.1) : CL (call tab (n + 3)) g_law_due_k40 [(viewD a b o es, w)] fun r os => r = (.bl (nearV a b o es), .deep) := by
  refine cl_law_due_k40 ?_
  unfold s_law_due_k40
  have hv : viewD a b o es = .tup [.int a, .int b, mD o, .lst (es.map endD)] := rfl
  simp! []
  refine cl (C_law_pairs hl ho fun e h => (he e h).1) ?_
  rintro _ _ rfl
  rw [hv]
  cases hP : pairsV o es with
  | none =>
    simp! [prD_none]
    rw [nearV_none hP]
  | some p =>
    have pf : plains (es.map fun e => D.int (farE e : Int)) = true := plains_map fun _ _ => rfl
    rw [nearV_some hP]
    dsimp! [prD_some, pf]
    refine EX_ifF ?_ ?_
    · simp! [pf]
    dsimp! [pf]
    refine EX_if (nearBad a b p) ?_ (fun h => ?_) (fun h => ?_)
    · simp! []
      unfold nearBad
      cases h : decide (decide ((p.2 : Int) = 0) = decide ((p.1 : Int) = a)) <;> simp! []
    · simp! []
      rw [if_pos h]
    · rw [if_neg (by rw [h]; decide)]
      simp! [pf, zip0_self, -zip0_map]
      refine FL_ix (fun k E => (es.take k).all (nearOK p.2) = true ∧ ∃ o6 o7, E = [some (.tup [.int a, .int b, mD o, .lst (es.map endD)], .sh), some (.tup [dn p.1, dn p.2, .lst (es.map fun e => D.int (farE e : Int))], .sh), some (.int (((es.take k).filter (nearUp p.2)).length : Nat), .deep), some (dn p.1, .deep), some (dn p.2, .deep), some (.lst (es.map fun e => D.int (farE e : Int)), .sh), o6, o7]) ⟨rfl, none, none, rfl⟩ ?_ ?_
      · rintro k _ hk ⟨ha, o6, o7, rfl⟩
        have hk : k < es.length := by simpa using hk
        have hU : (((es.take (k + 1)).filter (nearUp p.2)).length : Int) = ((es.take k).filter (nearUp p.2)).length + (if nearUp p.2 es[k] = true then 1 else 0) := by
          rw [take_succ' hk, List.filter_append, List.length_append]
          cases hu : nearUp p.2 es[k] <;> simp [hu]
        have hall : nearOK p.2 es[k] = true → (es.take (k + 1)).all (nearOK p.2) = true := fun h => by rw [take_succ' hk, List.all_append, ha]; simpa using h
        have bad : nearOK p.2 es[k] = false → es.all (nearOK p.2) = false := fun h => List.all_eq_false.mpr ⟨es[k], List.getElem_mem hk, by rw [h]; simp⟩
        dsimp! [List.getElem_map, endD]
        refine EX_ifd ((farE es[k] : Int) + es[k].1 < p.2) ?_ (fun h1 => ?_) (fun h1 => ?_)
        · simp! []
        · simp! []
          rw [bad (by unfold nearOK; rw [decide_eq_false (show ¬(p.2 : Int) ≤ (farE es[k] : Int) + es[k].1 by omega)]; rfl)]
          rfl
        · dsimp! []
          refine EX_if (es[k].2.1 && !(decide ((farE es[k] : Int) + es[k].1 = p.2) || decide ((farE es[k] : Int) - es[k].1 = p.2))) ?_ (fun h2 => ?_) (fun h2 => ?_)
          · simp! []
            cases ht : es[k].2.1 <;> simp! [ht, deq_int]
          · simp! []
            rw [bad]
            · rfl
            · rw [Bool.and_eq_true, Bool.not_eq_true', Bool.or_eq_false_iff, decide_eq_false_iff_not, decide_eq_false_iff_not] at h2
              unfold nearOK
              rw [h2.1, decide_eq_false (show ¬(p.2 : Int) = (farE es[k] : Int) + es[k].1 by omega), decide_eq_false (show ¬(p.2 : Int) = (farE es[k] : Int) - es[k].1 by omega)]
              simp
          · have hok : nearOK p.2 es[k] = true := by
              unfold nearOK
              rw [decide_eq_true (show (p.2 : Int) ≤ (farE es[k] : Int) + es[k].1 by omega), Bool.true_and]
              cases ht : es[k].2.1 with
              | false => rfl
              | true =>
                rw [ht, Bool.true_and, Bool.not_eq_false', Bool.or_eq_true, decide_eq_true_eq, decide_eq_true_eq] at h2
                simp only [Bool.not_true, Bool.false_or, Bool.or_eq_true, decide_eq_true_eq]
                omega
            have hall := hall hok
            simp! []
            cases ht : es[k].2.1 with
            | false =>
              simp! [ht]
              refine ⟨hall, some (.int (farE es[k]), .deep), some (.tup [.int es[k].1, .bl false, mD es[k].2.2], .deep), ?_⟩
              rw [hU, show nearUp p.2 es[k] = false by unfold nearUp; rw [ht]; rfl, if_neg (by decide), Int.add_zero]
            | true =>
              have e1 : nearUp p.2 es[k] = decide ((farE es[k] : Int) + es[k].1 = p.2) := by unfold nearUp; rw [ht]; rfl
              simp! [ht]
              refine BR_d (fun h3 => ?_) (fun h3 => ?_)
              · simp! []
                refine ⟨hall, some (.int (farE es[k]), .deep), some (.tup [.int es[k].1, .bl true, mD es[k].2.2], .deep), ?_⟩
                rw [hU, e1, if_pos (decide_eq_true h3)]
              · simp! []
                refine ⟨hall, some (.int (farE es[k]), .deep), some (.tup [.int es[k].1, .bl true, mD es[k].2.2], .deep), ?_⟩
                rw [hU, e1, if_neg (by rw [decide_eq_false h3]; decide), Int.add_zero]
      · rintro _ ⟨ha, o6, o7, rfl⟩
        rw [List.length_map, List.take_length] at ha
        simp only [List.length_map, List.take_length]
        rw [ha]
        simp! []
        refine BR_d (fun h => ?_) (fun h => ?_)
        · simp! []
          rw [decide_eq_true h]
          rfl
        · simp! []
          rw [decide_eq_false h]
          exact congrArg (fun b => (D.bl b, Ow.deep)) (decide_eq_decide.mpr (by omega))
theorem L_k40 {n : Nat} {ns : List Int} (hn : ns.length ≤ 63) : CL (call tab (n + 8)) g_law_k40 [(.scr ns, .deep)] fun r os => r = (.bl true, .deep) := by
  refine cl_law_k40 ?_
  unfold s_law_k40
  have hv : ∀ a b o es, viewD a b o es = .tup [.int a, .int b, mD o, .lst (es.map endD)] := fun _ _ _ _ => rfl
  simp! []
  refine ⟨by omega, ?_⟩
  refine FL_r0 (fun k E => ∃ o1 o2 o3 o4 o5 o6 o7, E = [some (.scr ns, .deep), o1, o2, o3, o4, o5, o6, o7]) ⟨none, none, none, none, none, none, none, rfl⟩ ?_ ?_
  · rintro k _ hk ⟨o1, o2, o3, o4, o5, o6, o7, rfl⟩
    simp! []
    refine cl (C_pool (by omega) (by omega)) ?_
    rintro _ _ ⟨a, b, rfl, rfl⟩
    simp! []
    refine cl C_pair_view ?_
    rintro _ _ ⟨nm, bd, o, es, a, b, ho, he, hl, rfl, rfl⟩
    dsimp! []
    have near : ∀ {E : En} {w : Ow}, True := trivial
    refine EX_ifFw ?_
    simp! []
    refine cl (C_said (C_says_ne (by omega) ho he)) ?_
    rintro _ _ rfl
    simp! []
    refine cl (C_due_k40 (by omega) ho he) ?_
    rintro _ _ rfl
    dsimp! []
    refine EX_cutW (fun E => ∃ o4 o5 o6 o7, E = [some (.scr ns, .deep), some (.int k, .deep), some (.lst [.int a, .int b], .deep), some (viewD nm bd o es, .sh), o4, o5, o6, o7]) ?_ ?_
    · rcases List.eq_nil_or_concat es with rfl | ⟨es', ⟨p0, t0, m0⟩, rfl⟩
      · simp! [hv, List.isEmpty_nil]
        exact ⟨by simp [shps], o4, o5, o6, o7, rfl⟩
      · have e1 : ∀ x, (viewD nm bd o (es'.concat (p0, t0, m0))) = x → x = .tup [.int nm, .int bd, mD o, .lst (es'.map endD ++ [endD (p0, t0, m0)])] := fun x h => by rw [← h]; unfold viewD; rw [List.concat_eq_append, List.map_append]; rfl
        generalize viewD nm bd o (es'.concat (p0, t0, m0)) = vv at *
        rw [e1 vv rfl]
        have hsh : shps 29 (es'.map endD ++ [endD (p0, t0, m0)]) = true := by rw [← List.map_singleton, ← List.map_append]; exact shps_end
        have hpl : plains (es'.map endD ++ [endD (p0, t0, m0)]) = true := by rw [← List.map_singleton, ← List.map_append]; exact plains_end
        have hne : (es'.map endD ++ [endD (p0, t0, m0)]).isEmpty = false := by simp
        have hat : atI (es'.map endD ++ [endD (p0, t0, m0)]) (-1) = some (endD (p0, t0, m0)) := by
          unfold atI ixN
          rw [if_neg (by decide), if_pos (by simp; omega)]
          show (es'.map endD ++ [endD (p0, t0, m0)])[_]? = _
          rw [show ((-1 : Int) + ((es'.map endD ++ [endD (p0, t0, m0)]).length : Nat)).toNat = (es'.map endD).length by simp; omega]
          simp
        simp! [hsh, hne, hpl]
        refine OP_of hat ?_
        have hed : endD (p0, t0, m0) = .tup [.int p0, .bl t0, mD m0] := rfl
        have hta : List.take ((-1 + ((es'.map endD ++ [endD (p0, t0, m0)]).length : Int)).toNat - 0) (List.drop 0 (es'.map endD ++ [endD (p0, t0, m0)])) = es'.map endD := by
          rw [show ((-1 : Int) + ((es'.map endD ++ [endD (p0, t0, m0)]).length : Nat)).toNat - 0 = (es'.map endD).length by simp; omega, List.drop_zero]
          exact List.take_left' rfl
        rw [hed] at *
        simp! [hsh, hne, hpl, hta, plains_end]
        have he2 : ∀ e ∈ es' ++ [((p0 % 60 + 1, t0, m0) : End)], MkOK e.2.2 ∧ 0 ≤ e.1 := fun e hm => by
          rcases List.mem_append.mp hm with hm | hm
          · exact he e (by simp [hm])
          · rw [List.mem_singleton.mp hm]; exact ⟨(he (p0, t0, m0) (by simp)).1, by show (0 : Int) ≤ p0 % 60 + 1; omega⟩
        have hl2 : (es' ++ [((p0 % 60 + 1, t0, m0) : End)]).length ≤ 1000 := by simp at hl ⊢; omega
        have e2 : viewD nm bd o (es' ++ [(p0 % 60 + 1, t0, m0)]) = .tup [.int nm, .int bd, mD o, .lst (es'.map endD ++ [.tup [.int (p0 % 60 + 1), .bl t0, mD m0]])] := by unfold viewD; rw [List.map_append]; rfl
        have c1 := C_said (n := n + 3) (w := .sh) (C_says_ne (n := n) (a := nm) (b := bd) hl2 ho he2)
        rw [e2] at c1
        have c2 := C_due_k40 (n := n + 4) (w := .sh) (a := nm) (b := bd) hl2 ho he2
        rw [e2] at c2
        refine ⟨by simp at hl; omega, cl c1 ?_⟩
        rintro _ _ rfl
        simp! [plains_end]
        refine cl c2 ?_
        rintro _ _ rfl
        simp! []
        exact ⟨_, _, _, _, rfl⟩
    · rintro _ ⟨o4, o5, o6, o7, rfl⟩
      dsimp! [hv]
      refine EX_ifFw ?_
      simp! []
      refine cl (C_said (C_says_ne (a := nm) (b := (bd + 1) % 3) (by omega) ho he)) ?_
      rintro _ _ rfl
      simp! []
      refine cl (C_due_k40 (by omega) ho he) ?_
      rintro _ _ rfl
      dsimp! []
      refine EX_ifFw ?_
      simp! []
      refine cl (C_said (C_says_ne (by omega) ho he)) ?_
      rintro _ _ rfl
      simp! []
      refine cl (C_due_k40 (by omega) ho he) ?_
      rintro _ _ rfl
      simp! []
      exact ⟨_, _, _, _, _, _, _, rfl⟩
  · rintro _ ⟨o1, o2, o3, o4, o5, o6, o7, rfl⟩
    simp! []

end BS

set_option Elab.async false
set_option linter.all false
set_option maxRecDepth 100000
set_option maxHeartbeats 0
namespace L_besidesay_k40_nearness_said
open PySem PySem.Spec PyProof.Rows L2 BS
def top (i : Nat) : Stmt := PySem.Challenge.pw_besidesay_k40_nearness_said.main.body.getD i (.Pass ⟨0, 0, 0, 0⟩)
abbrev s0 : Stmt := top 50
abbrev s1 : Stmt := top 51
abbrev s2 : Stmt := top 52
abbrev s3 : Stmt := top 53
abbrev s4 : Stmt := top 54
abbrev s5 : Stmt := top 55
abbrev s6 : Stmt := top 56
abbrev s7 : Stmt := top 28
abbrev s8 : Stmt := top 29
abbrev s9 : Stmt := top 4
abbrev s10 : Stmt := top 3
abbrev s11 : Stmt := top 5
abbrev s12 : Stmt := top 7
abbrev s13 : Stmt := top 21
abbrev s14 : Stmt := top 33
abbrev s15 : Stmt := top 34
abbrev s16 : Stmt := top 35
abbrev s17 : Stmt := top 32
abbrev s18 : Stmt := top 36
abbrev s19 : Stmt := top 37
abbrev s20 : Stmt := top 40
abbrev s21 : Stmt := top 13
abbrev s22 : Stmt := top 9
abbrev s23 : Stmt := top 15
abbrev s24 : Stmt := top 8
abbrev s25 : Stmt := top 14
abbrev s26 : Stmt := top 16
abbrev s27 : Stmt := top 19
abbrev s28 : Stmt := top 20
abbrev s29 : Stmt := top 22
abbrev s30 : Stmt := top 23
abbrev s31 : Stmt := top 25
abbrev s32 : Stmt := top 24
abbrev s33 : Stmt := top 27
abbrev s34 : Stmt := top 26
abbrev s35 : Stmt := top 44
abbrev s36 : Stmt := top 42
abbrev s37 : Stmt := top 45
abbrev s38 : Stmt := top 46
abbrev s39 : Stmt := top 43
abbrev s40 : Stmt := top 47
abbrev s41 : Stmt := top 10
abbrev s42 : Stmt := top 48
abbrev s43 : Stmt := top 59
abbrev s44 : Stmt := top 57
abbrev s45 : Stmt := top 58
abbrev s46 : Stmt := top 60
abbrev s47 : Stmt := top 61
def ts : Tss := ("_law_cell_at", s0, ["_law_script", "_law_k"]) :: ("_law_pool", s1, ["_law_script", "_law_k"]) :: ("_law_take", s2, ["_law_pool_here", "_law_many"]) :: ("_law_mark", s3, ["_law_numbers"]) :: ("_law_odd_mark", s4, ["_law_pool_here", "_law_root", "_law_far"]) :: ("_law_end", s5, ["_law_pool_here", "_law_root", "_law_far", "_law_price"]) :: ("_law_pair_view", s6, ["_law_pool_here"]) :: ("is_two", s7, ["mark"]) :: ("says_pairing", s8, ["view"]) :: ("number_in", s9, ["field"]) :: ("is_mark", s10, ["thing"]) :: ("fields_of", s11, ["thing"]) :: ("fields_beside", s12, ["view", "least"]) :: ("falls_to_one", s13, ["far", "others"]) :: ("entry_of", s14, ["fields", "number"]) :: ("leads", s15, ["number", "own", "price", "fields"]) :: ("is_entry_right", s16, ["name", "number", "own", "ends"]) :: ("is_form", s17, ["fields"]) :: ("is_dear", s18, ["own", "price", "fields"]) :: ("says_cheapest", s19, ["view"]) :: ("says_round", s20, ["view"]) :: ("threes_of", s21, ["fields"]) :: ("below", s22, ["name", "own", "ends"]) :: ("leaders_among", s23, ["name", "threes"]) :: ("goes_up", s24, ["name", "own", "ends"]) :: ("are_threes_right", s25, ["name", "threes", "ends"]) :: ("says_ball", s26, ["view"]) :: ("pair_of", s27, ["mark"]) :: ("pairs_of", s28, ["view"]) :: ("says_tree_by", s29, ["name", "pairs"]) :: ("says_tree", s30, ["view"]) :: ("says_near", s31, ["view"]) :: ("says_bare", s32, ["view"]) :: ("says_sides", s33, ["view"]) :: ("says_odd", s34, ["view"]) :: ("parted", s35, ["view", "part"]) :: ("two_marks", s36, ["mark"]) :: ("part_seen", s37, ["view", "number"]) :: ("says_both", s38, ["saying", "view"]) :: ("chosen_mark", s39, ["mark"]) :: ("says_either", s40, ["saying", "view"]) :: ("says_many", s41, ["view", "many"]) :: ("says", s42, ["saying", "view"]) :: ("_law_said", s43, ["_law_saying", "_law_view"]) :: ("_law_read", s44, ["_law_mark_here"]) :: ("_law_pairs", s45, ["_law_view"]) :: ("_law_due", s46, ["_law_view"]) :: ("law", s47, ["_law_script"]) :: []
def fr : List Str := "len" :: "str" :: "max" :: "min" :: "range" :: "int" :: "isinstance" :: "abs" :: "tuple" :: "zip" :: "set" :: "enumerate" :: "sum" :: "list" :: "bool" :: []
def ci : List (Str × Int) := ("LONGEST", 9000) :: ("WIDE", 12) :: ("MOST_ENTRIES", 7) :: ("LEAST_MANY", 3) :: ("HEAD", 7) :: ("NEAR_BADGE", 1) :: []
def cs : List (Str × Str) := []
/-! ### each def is what its syntax says -/
section
variable {P : Program} {w : World} {K : PySem.W.Frag} {mg : Str → Option Value} {base : Heap} {fdv : Nat → FuncData} {n : Nat}
theorem sc0 : FnScope ["_law_script", "_law_k"] ["_law_script", "_law_k"] (defScope s0) := ⟨rfl, rfl, rfl, by decide +kernel, rfl, by decide +kernel, by decide +kernel⟩
theorem b0 (T : Txt K mg ts fr ci cs fdv) : Binds K (fdv 0) ["_law_script", "_law_k"] [] := (T.fn 0 rfl).bindsN fun _ _ _ _ _ _ us hl => match us, hl with | [_, _], _ => rfl
theorem sc1 : FnScope ["_law_script", "_law_k", "_law_cell", "_law_seed"] ["_law_script", "_law_k"] (defScope s1) := ⟨rfl, rfl, rfl, by decide +kernel, rfl, by decide +kernel, by decide +kernel⟩
theorem b1 (T : Txt K mg ts fr ci cs fdv) : Binds K (fdv 1) ["_law_script", "_law_k"] [] := (T.fn 1 rfl).bindsN fun _ _ _ _ _ _ us hl => match us, hl with | [_, _], _ => rfl
theorem sc2 : FnScope ["_law_pool_here", "_law_many", "_law_found"] ["_law_pool_here", "_law_many"] (defScope s2) := ⟨rfl, rfl, rfl, by decide +kernel, rfl, by decide +kernel, by decide +kernel⟩
theorem b2 (T : Txt K mg ts fr ci cs fdv) : Binds K (fdv 2) ["_law_pool_here", "_law_many"] [] := (T.fn 2 rfl).bindsN fun _ _ _ _ _ _ us hl => match us, hl with | [_, _], _ => rfl
theorem sc3 : FnScope ["_law_numbers", "_law_found", "_law_number", "_law_part"] ["_law_numbers"] (defScope s3) := ⟨rfl, rfl, rfl, by decide +kernel, rfl, by decide +kernel, by decide +kernel⟩
theorem b3 (T : Txt K mg ts fr ci cs fdv) : Binds K (fdv 3) ["_law_numbers"] [] := (T.fn 3 rfl).bindsN fun _ _ _ _ _ _ us hl => match us, hl with | [_], _ => rfl
theorem sc4 : FnScope ["_law_pool_here", "_law_root", "_law_far", "_law_good", "_law_some"] ["_law_pool_here", "_law_root", "_law_far"] (defScope s4) := ⟨rfl, rfl, rfl, by decide +kernel, rfl, by decide +kernel, by decide +kernel⟩
theorem b4 (T : Txt K mg ts fr ci cs fdv) : Binds K (fdv 4) ["_law_pool_here", "_law_root", "_law_far"] [] := (T.fn 4 rfl).bindsN fun _ _ _ _ _ _ us hl => match us, hl with | [_, _, _], _ => rfl
theorem sc5 : FnScope ["_law_pool_here", "_law_root", "_law_far", "_law_price", "_law_other", "_law_way", "_law_some", "_law_beside"] ["_law_pool_here", "_law_root", "_law_far", "_law_price"] (defScope s5) := ⟨rfl, rfl, rfl, by decide +kernel, rfl, by decide +kernel, by decide +kernel⟩
theorem b5 (T : Txt K mg ts fr ci cs fdv) : Binds K (fdv 5) ["_law_pool_here", "_law_root", "_law_far", "_law_price"] [] := (T.fn 5 rfl).bindsN fun _ _ _ _ _ _ us hl => match us, hl with | [_, _, _, _], _ => rfl
theorem sc6 : FnScope ["_law_pool_here", "_law_name", "_law_root", "_law_far", "_law_ends", "_law_same", "_law_calm", "_law_many", "_law_up", "_law_odd", "_law_k", "_law_mark_here", "_law_badge", "_law_price", "_law_told", "_law_step"] ["_law_pool_here"] (defScope s6) := ⟨rfl, rfl, rfl, by decide +kernel, rfl, by decide +kernel, by decide +kernel⟩
theorem b6 (T : Txt K mg ts fr ci cs fdv) : Binds K (fdv 6) ["_law_pool_here"] [] := (T.fn 6 rfl).bindsN fun _ _ _ _ _ _ us hl => match us, hl with | [_], _ => rfl
theorem sc7 : FnScope ["mark"] ["mark"] (defScope s7) := ⟨rfl, rfl, rfl, by decide +kernel, rfl, by decide +kernel, by decide +kernel⟩
theorem b7 (T : Txt K mg ts fr ci cs fdv) : Binds K (fdv 7) ["mark"] [] := (T.fn 7 rfl).bindsN fun _ _ _ _ _ _ us hl => match us, hl with | [_], _ => rfl
theorem sc8 : FnScope ["view", "own", "paired", "price", "told", "mark"] ["view"] (defScope s8) := ⟨rfl, rfl, rfl, by decide +kernel, rfl, by decide +kernel, by decide +kernel⟩
theorem b8 (T : Txt K mg ts fr ci cs fdv) : Binds K (fdv 8) ["view"] [] := (T.fn 8 rfl).bindsN fun _ _ _ _ _ _ us hl => match us, hl with | [_], _ => rfl
theorem sc9 : FnScope ["field", "found", "sign"] ["field"] (defScope s9) := ⟨rfl, rfl, rfl, by decide +kernel, rfl, by decide +kernel, by decide +kernel⟩
theorem b9 (T : Txt K mg ts fr ci cs fdv) : Binds K (fdv 9) ["field"] [] := (T.fn 9 rfl).bindsN fun _ _ _ _ _ _ us hl => match us, hl with | [_], _ => rfl
theorem sc10 : FnScope ["thing", "sign"] ["thing"] (defScope s10) := ⟨rfl, rfl, rfl, by decide +kernel, rfl, by decide +kernel, by decide +kernel⟩
theorem b10 (T : Txt K mg ts fr ci cs fdv) : Binds K (fdv 10) ["thing"] [] := (T.fn 10 rfl).bindsN fun _ _ _ _ _ _ us hl => match us, hl with | [_], _ => rfl
theorem sc11 : FnScope ["thing", "at"] ["thing"] (defScope s11) := ⟨rfl, rfl, rfl, by decide +kernel, rfl, by decide +kernel, by decide +kernel⟩
theorem b11 (T : Txt K mg ts fr ci cs fdv) : Binds K (fdv 11) ["thing"] [] := (T.fn 11 rfl).bindsN fun _ _ _ _ _ _ us hl => match us, hl with | [_], _ => rfl
theorem sc12 : FnScope ["view", "least", "own", "ends", "price", "told", "mark", "fields"] ["view", "least"] (defScope s12) := ⟨rfl, rfl, rfl, by decide +kernel, rfl, by decide +kernel, by decide +kernel⟩
theorem b12 (T : Txt K mg ts fr ci cs fdv) : Binds K (fdv 12) ["view", "least"] [] := (T.fn 12 rfl).bindsN fun _ _ _ _ _ _ us hl => match us, hl with | [_, _], _ => rfl
theorem sc13 : FnScope ["far", "others", "other"] ["far", "others"] (defScope s13) := ⟨rfl, rfl, rfl, by decide +kernel, rfl, by decide +kernel, by decide +kernel⟩
theorem b13 (T : Txt K mg ts fr ci cs fdv) : Binds K (fdv 13) ["far", "others"] [] := (T.fn 13 rfl).bindsN fun _ _ _ _ _ _ us hl => match us, hl with | [_, _], _ => rfl
theorem sc14 : FnScope ["fields", "number"] ["fields", "number"] (defScope s14) := ⟨rfl, rfl, rfl, by decide +kernel, rfl, by decide +kernel, by decide +kernel⟩
theorem b14 (T : Txt K mg ts fr ci cs fdv) : Binds K (fdv 14) ["fields", "number"] [] := (T.fn 14 rfl).bindsN fun _ _ _ _ _ _ us hl => match us, hl with | [_, _], _ => rfl
theorem sc15 : FnScope ["number", "own", "price", "fields", "other"] ["number", "own", "price", "fields"] (defScope s15) := ⟨rfl, rfl, rfl, by decide +kernel, rfl, by decide +kernel, by decide +kernel⟩
theorem b15 (T : Txt K mg ts fr ci cs fdv) : Binds K (fdv 15) ["number", "own", "price", "fields"] [] := (T.fn 15 rfl).bindsN fun _ _ _ _ _ _ us hl => match us, hl with | [_, _, _, _], _ => rfl
theorem sc16 : FnScope ["name", "number", "own", "ends", "end"] ["name", "number", "own", "ends"] (defScope s16) := ⟨rfl, rfl, rfl, by decide +kernel, rfl, by decide +kernel, by decide +kernel⟩
theorem b16 (T : Txt K mg ts fr ci cs fdv) : Binds K (fdv 16) ["name", "number", "own", "ends"] [] := (T.fn 16 rfl).bindsN fun _ _ _ _ _ _ us hl => match us, hl with | [_, _, _, _], _ => rfl
theorem sc17 : FnScope ["fields"] ["fields"] (defScope s17) := ⟨rfl, rfl, rfl, by decide +kernel, rfl, by decide +kernel, by decide +kernel⟩
theorem b17 (T : Txt K mg ts fr ci cs fdv) : Binds K (fdv 17) ["fields"] [] := (T.fn 17 rfl).bindsN fun _ _ _ _ _ _ us hl => match us, hl with | [_], _ => rfl
theorem sc18 : FnScope ["own", "price", "fields", "number", "one", "other"] ["own", "price", "fields"] (defScope s18) := ⟨rfl, rfl, rfl, by decide +kernel, rfl, by decide +kernel, by decide +kernel⟩
theorem b18 (T : Txt K mg ts fr ci cs fdv) : Binds K (fdv 18) ["own", "price", "fields"] [] := (T.fn 18 rfl).bindsN fun _ _ _ _ _ _ us hl => match us, hl with | [_, _, _], _ => rfl
theorem sc19 : FnScope ["view", "found", "own", "ends", "number", "end", "fields"] ["view"] (defScope s19) := ⟨rfl, rfl, rfl, by decide +kernel, rfl, by decide +kernel, by decide +kernel⟩
theorem b19 (T : Txt K mg ts fr ci cs fdv) : Binds K (fdv 19) ["view"] [] := (T.fn 19 rfl).bindsN fun _ _ _ _ _ _ us hl => match us, hl with | [_], _ => rfl
theorem sc20 : FnScope ["view", "found", "ends", "on", "back", "own", "root", "many", "at", "following", "ahead", "end", "fields"] ["view"] (defScope s20) := ⟨rfl, rfl, rfl, by decide +kernel, rfl, by decide +kernel, by decide +kernel⟩
theorem b20 (T : Txt K mg ts fr ci cs fdv) : Binds K (fdv 20) ["view"] [] := (T.fn 20 rfl).bindsN fun _ _ _ _ _ _ us hl => match us, hl with | [_], _ => rfl
theorem sc21 : FnScope ["fields", "at"] ["fields"] (defScope s21) := ⟨rfl, rfl, rfl, by decide +kernel, rfl, by decide +kernel, by decide +kernel⟩
theorem b21 (T : Txt K mg ts fr ci cs fdv) : Binds K (fdv 21) ["fields"] [] := (T.fn 21 rfl).bindsN fun _ _ _ _ _ _ us hl => match us, hl with | [_], _ => rfl
theorem sc22 : FnScope ["name", "own", "ends", "end"] ["name", "own", "ends"] (defScope s22) := ⟨rfl, rfl, rfl, by decide +kernel, rfl, by decide +kernel, by decide +kernel⟩
theorem b22 (T : Txt K mg ts fr ci cs fdv) : Binds K (fdv 22) ["name", "own", "ends"] [] := (T.fn 22 rfl).bindsN fun _ _ _ _ _ _ us hl => match us, hl with | [_, _, _], _ => rfl
theorem sc23 : FnScope ["name", "threes", "three"] ["name", "threes"] (defScope s23) := ⟨rfl, rfl, rfl, by decide +kernel, rfl, by decide +kernel, by decide +kernel⟩
theorem b23 (T : Txt K mg ts fr ci cs fdv) : Binds K (fdv 23) ["name", "threes"] [] := (T.fn 23 rfl).bindsN fun _ _ _ _ _ _ us hl => match us, hl with | [_, _], _ => rfl
theorem sc24 : FnScope ["name", "own", "ends", "end"] ["name", "own", "ends"] (defScope s24) := ⟨rfl, rfl, rfl, by decide +kernel, rfl, by decide +kernel, by decide +kernel⟩
theorem b24 (T : Txt K mg ts fr ci cs fdv) : Binds K (fdv 24) ["name", "own", "ends"] [] := (T.fn 24 rfl).bindsN fun _ _ _ _ _ _ us hl => match us, hl with | [_, _, _], _ => rfl
theorem sc25 : FnScope ["name", "threes", "ends", "number", "end", "back", "three"] ["name", "threes", "ends"] (defScope s25) := ⟨rfl, rfl, rfl, by decide +kernel, rfl, by decide +kernel, by decide +kernel⟩
theorem b25 (T : Txt K mg ts fr ci cs fdv) : Binds K (fdv 25) ["name", "threes", "ends"] [] := (T.fn 25 rfl).bindsN fun _ _ _ _ _ _ us hl => match us, hl with | [_, _, _], _ => rfl
theorem sc26 : FnScope ["view", "found", "name", "threes", "under", "heads", "part", "own", "ends", "fields", "end"] ["view"] (defScope s26) := ⟨rfl, rfl, rfl, by decide +kernel, rfl, by decide +kernel, by decide +kernel⟩
theorem b26 (T : Txt K mg ts fr ci cs fdv) : Binds K (fdv 26) ["view"] [] := (T.fn 26 rfl).bindsN fun _ _ _ _ _ _ us hl => match us, hl with | [_], _ => rfl
theorem sc27 : FnScope ["mark", "found"] ["mark"] (defScope s27) := ⟨rfl, rfl, rfl, by decide +kernel, rfl, by decide +kernel, by decide +kernel⟩
theorem b27 (T : Txt K mg ts fr ci cs fdv) : Binds K (fdv 27) ["mark"] [] := (T.fn 27 rfl).bindsN fun _ _ _ _ _ _ us hl => match us, hl with | [_], _ => rfl
theorem sc28 : FnScope ["view", "own", "ends", "price", "told", "mark", "other"] ["view"] (defScope s28) := ⟨rfl, rfl, rfl, by decide +kernel, rfl, by decide +kernel, by decide +kernel⟩
theorem b28 (T : Txt K mg ts fr ci cs fdv) : Binds K (fdv 28) ["view"] [] := (T.fn 28 rfl).bindsN fun _ _ _ _ _ _ us hl => match us, hl with | [_], _ => rfl
theorem sc29 : FnScope ["name", "pairs", "root", "far", "ends", "end"] ["name", "pairs"] (defScope s29) := ⟨rfl, rfl, rfl, by decide +kernel, rfl, by decide +kernel, by decide +kernel⟩
theorem b29 (T : Txt K mg ts fr ci cs fdv) : Binds K (fdv 29) ["name", "pairs"] [] := (T.fn 29 rfl).bindsN fun _ _ _ _ _ _ us hl => match us, hl with | [_, _], _ => rfl
theorem sc30 : FnScope ["view", "pairs"] ["view"] (defScope s30) := ⟨rfl, rfl, rfl, by decide +kernel, rfl, by decide +kernel, by decide +kernel⟩
theorem b30 (T : Txt K mg ts fr ci cs fdv) : Binds K (fdv 30) ["view"] [] := (T.fn 30 rfl).bindsN fun _ _ _ _ _ _ us hl => match us, hl with | [_], _ => rfl
theorem sc31 : FnScope ["view", "pairs", "ups", "root", "far", "ends", "price", "told", "other"] ["view"] (defScope s31) := ⟨rfl, rfl, rfl, by decide +kernel, rfl, by decide +kernel, by decide +kernel⟩
theorem b31 (T : Txt K mg ts fr ci cs fdv) : Binds K (fdv 31) ["view"] [] := (T.fn 31 rfl).bindsN fun _ _ _ _ _ _ us hl => match us, hl with | [_], _ => rfl
theorem sc32 : FnScope ["view", "pairs", "root", "far", "ends", "end"] ["view"] (defScope s32) := ⟨rfl, rfl, rfl, by decide +kernel, rfl, by decide +kernel, by decide +kernel⟩
theorem b32 (T : Txt K mg ts fr ci cs fdv) : Binds K (fdv 32) ["view"] [] := (T.fn 32 rfl).bindsN fun _ _ _ _ _ _ us hl => match us, hl with | [_], _ => rfl
theorem sc33 : FnScope ["view", "price", "told", "mark"] ["view"] (defScope s33) := ⟨rfl, rfl, rfl, by decide +kernel, rfl, by decide +kernel, by decide +kernel⟩
theorem b33 (T : Txt K mg ts fr ci cs fdv) : Binds K (fdv 33) ["view"] [] := (T.fn 33 rfl).bindsN fun _ _ _ _ _ _ us hl => match us, hl with | [_], _ => rfl
theorem sc34 : FnScope ["view", "pairs", "root", "far", "ends", "end"] ["view"] (defScope s34) := ⟨rfl, rfl, rfl, by decide +kernel, rfl, by decide +kernel, by decide +kernel⟩
theorem b34 (T : Txt K mg ts fr ci cs fdv) : Binds K (fdv 34) ["view"] [] := (T.fn 34 rfl).bindsN fun _ _ _ _ _ _ us hl => match us, hl with | [_], _ => rfl
theorem sc35 : FnScope ["view", "part", "own", "ends", "price", "told", "mark", "end"] ["view", "part"] (defScope s35) := ⟨rfl, rfl, rfl, by decide +kernel, rfl, by decide +kernel, by decide +kernel⟩
theorem b35 (T : Txt K mg ts fr ci cs fdv) : Binds K (fdv 35) ["view", "part"] [] := (T.fn 35 rfl).bindsN fun _ _ _ _ _ _ us hl => match us, hl with | [_, _], _ => rfl
theorem sc36 : FnScope ["mark", "size"] ["mark"] (defScope s36) := ⟨rfl, rfl, rfl, by decide +kernel, rfl, by decide +kernel, by decide +kernel⟩
theorem b36 (T : Txt K mg ts fr ci cs fdv) : Binds K (fdv 36) ["mark"] [] := (T.fn 36 rfl).bindsN fun _ _ _ _ _ _ us hl => match us, hl with | [_], _ => rfl
theorem sc37 : FnScope ["view", "number", "price", "told", "mark"] ["view", "number"] (defScope s37) := ⟨rfl, rfl, rfl, by decide +kernel, rfl, by decide +kernel, by decide +kernel⟩
theorem b37 (T : Txt K mg ts fr ci cs fdv) : Binds K (fdv 37) ["view", "number"] [] := (T.fn 37 rfl).bindsN fun _ _ _ _ _ _ us hl => match us, hl with | [_, _], _ => rfl
theorem sc38 : FnScope ["saying", "view", "found"] ["saying", "view"] (defScope s38) := ⟨rfl, rfl, rfl, by decide +kernel, rfl, by decide +kernel, by decide +kernel⟩
theorem b38 (T : Txt K mg ts fr ci cs fdv) : Binds K (fdv 38) ["saying", "view"] [] := (T.fn 38 rfl).bindsN fun _ _ _ _ _ _ us hl => match us, hl with | [_, _], _ => rfl
theorem sc39 : FnScope ["mark"] ["mark"] (defScope s39) := ⟨rfl, rfl, rfl, by decide +kernel, rfl, by decide +kernel, by decide +kernel⟩
theorem b39 (T : Txt K mg ts fr ci cs fdv) : Binds K (fdv 39) ["mark"] [] := (T.fn 39 rfl).bindsN fun _ _ _ _ _ _ us hl => match us, hl with | [_], _ => rfl
theorem sc40 : FnScope ["saying", "view", "found", "end"] ["saying", "view"] (defScope s40) := ⟨rfl, rfl, rfl, by decide +kernel, rfl, by decide +kernel, by decide +kernel⟩
theorem b40 (T : Txt K mg ts fr ci cs fdv) : Binds K (fdv 40) ["saying", "view"] [] := (T.fn 40 rfl).bindsN fun _ _ _ _ _ _ us hl => match us, hl with | [_, _], _ => rfl
theorem sc41 : FnScope ["view", "many", "found", "own", "ends", "fields", "end"] ["view", "many"] (defScope s41) := ⟨rfl, rfl, rfl, by decide +kernel, rfl, by decide +kernel, by decide +kernel⟩
theorem b41 (T : Txt K mg ts fr ci cs fdv) : Binds K (fdv 41) ["view", "many"] [] := (T.fn 41 rfl).bindsN fun _ _ _ _ _ _ us hl => match us, hl with | [_, _], _ => rfl
theorem sc42 : FnScope ["saying", "view", "plain"] ["saying", "view"] (defScope s42) := ⟨rfl, rfl, rfl, by decide +kernel, rfl, by decide +kernel, by decide +kernel⟩
theorem b42 (T : Txt K mg ts fr ci cs fdv) : Binds K (fdv 42) ["saying", "view"] [] := (T.fn 42 rfl).bindsN fun _ _ _ _ _ _ us hl => match us, hl with | [_, _], _ => rfl
theorem sc43 : FnScope ["_law_saying", "_law_view", "_law_handed", "_law_found"] ["_law_saying", "_law_view"] (defScope s43) := ⟨rfl, rfl, rfl, by decide +kernel, rfl, by decide +kernel, by decide +kernel⟩
theorem b43 (T : Txt K mg ts fr ci cs fdv) : Binds K (fdv 43) ["_law_saying", "_law_view"] [] := (T.fn 43 rfl).bindsN fun _ _ _ _ _ _ us hl => match us, hl with | [_, _], _ => rfl
theorem sc44 : FnScope ["_law_mark_here", "_law_found", "_law_k"] ["_law_mark_here"] (defScope s44) := ⟨rfl, rfl, rfl, by decide +kernel, rfl, by decide +kernel, by decide +kernel⟩
theorem b44 (T : Txt K mg ts fr ci cs fdv) : Binds K (fdv 44) ["_law_mark_here"] [] := (T.fn 44 rfl).bindsN fun _ _ _ _ _ _ us hl => match us, hl with | [_], _ => rfl
theorem sc45 : FnScope ["_law_view", "_law_own", "_law_others", "_law_end_here", "_law_other"] ["_law_view"] (defScope s45) := ⟨rfl, rfl, rfl, by decide +kernel, rfl, by decide +kernel, by decide +kernel⟩
theorem b45 (T : Txt K mg ts fr ci cs fdv) : Binds K (fdv 45) ["_law_view"] [] := (T.fn 45 rfl).bindsN fun _ _ _ _ _ _ us hl => match us, hl with | [_], _ => rfl
theorem sc46 : FnScope ["_law_view", "_law_pairs_here", "_law_ups", "_law_root", "_law_far", "_law_others", "_law_other", "_law_end_here"] ["_law_view"] (defScope s46) := ⟨rfl, rfl, rfl, by decide +kernel, rfl, by decide +kernel, by decide +kernel⟩
theorem b46 (T : Txt K mg ts fr ci cs fdv) : Binds K (fdv 46) ["_law_view"] [] := (T.fn 46 rfl).bindsN fun _ _ _ _ _ _ us hl => match us, hl with | [_], _ => rfl
theorem sc47 : FnScope ["_law_script", "_law_k", "_law_pool_here", "_law_view", "_law_other", "_law_price", "_law_told", "_law_mark_here"] ["_law_script"] (defScope s47) := ⟨rfl, rfl, rfl, by decide +kernel, rfl, by decide +kernel, by decide +kernel⟩
theorem b47 (T : Txt K mg ts fr ci cs fdv) : Binds K (fdv 47) ["_law_script"] [] := (T.fn 47 rfl).bindsN fun _ _ _ _ _ _ us hl => match us, hl with | [_], _ => rfl
theorem ball (T : Txt K mg ts fr ci cs fdv) {x : Str} {st : Stmt} {ps : List Str} (i : Nat) (h : ts[i]? = some (x, st, ps)) : Binds K (fdv i) ps [] := by
  match i, h with
  | 0, h => cases h; exact b0 T
  | 1, h => cases h; exact b1 T
  | 2, h => cases h; exact b2 T
  | 3, h => cases h; exact b3 T
  | 4, h => cases h; exact b4 T
  | 5, h => cases h; exact b5 T
  | 6, h => cases h; exact b6 T
  | 7, h => cases h; exact b7 T
  | 8, h => cases h; exact b8 T
  | 9, h => cases h; exact b9 T
  | 10, h => cases h; exact b10 T
  | 11, h => cases h; exact b11 T
  | 12, h => cases h; exact b12 T
  | 13, h => cases h; exact b13 T
  | 14, h => cases h; exact b14 T
  | 15, h => cases h; exact b15 T
  | 16, h => cases h; exact b16 T
  | 17, h => cases h; exact b17 T
  | 18, h => cases h; exact b18 T
  | 19, h => cases h; exact b19 T
  | 20, h => cases h; exact b20 T
  | 21, h => cases h; exact b21 T
  | 22, h => cases h; exact b22 T
  | 23, h => cases h; exact b23 T
  | 24, h => cases h; exact b24 T
  | 25, h => cases h; exact b25 T
  | 26, h => cases h; exact b26 T
  | 27, h => cases h; exact b27 T
  | 28, h => cases h; exact b28 T
  | 29, h => cases h; exact b29 T
  | 30, h => cases h; exact b30 T
  | 31, h => cases h; exact b31 T
  | 32, h => cases h; exact b32 T
  | 33, h => cases h; exact b33 T
  | 34, h => cases h; exact b34 T
  | 35, h => cases h; exact b35 T
  | 36, h => cases h; exact b36 T
  | 37, h => cases h; exact b37 T
  | 38, h => cases h; exact b38 T
  | 39, h => cases h; exact b39 T
  | 40, h => cases h; exact b40 T
  | 41, h => cases h; exact b41 T
  | 42, h => cases h; exact b42 T
  | 43, h => cases h; exact b43 T
  | 44, h => cases h; exact b44 T
  | 45, h => cases h; exact b45 T
  | 46, h => cases h; exact b46 T
  | 47, h => cases h; exact b47 T
  | k + 48, h => cases h
theorem ok0 (T : Txt K mg ts fr ci cs fdv) (A : Oks P w K mg base tab ts fdv n) : FnOk P w K mg base CX0 (n + 1) (He.ga K "_law_cell_at") (fdv 0) ["_law_script", "_law_k"] (spV K (FAof K ts) (call tab (n + 1) 0)) := by
  refine def_ok (Φ := call tab n) (d := d_law_cell_at) (T.fn 0 rfl) sc0 rfl rfl fun cdv A0 outer s H E hr => ?_
  have AL := alls_of T A (ball T)
  have hu1 := hu_of hr
  have hu64 := hu64_of hr
  have hu65 := hu65_of hr
  exact (ss_cons (ss_if (sp_lt (sx_var (i := 1) rfl (by first | exact .inl rfl | exact .inr (.inl rfl) | exact .inr (.inr rfl))) (sx_len rfl (T.free 0 rfl) (sx_var (i := 0) rfl (by first | exact .inl rfl | exact .inr (.inl rfl) | exact .inr (.inr rfl))))) (ss_one (ss_ret (sx_ix hu1 (sx_var (i := 0) rfl (by first | exact .inl rfl | exact .inr (.inl rfl) | exact .inr (.inr rfl))) (sx_var (i := 1) rfl (by first | exact .inl rfl | exact .inr (.inl rfl) | exact .inr (.inr rfl)))))) ss_nil)
    (ss_one (ss_ret sx_int)))
theorem ok1 (T : Txt K mg ts fr ci cs fdv) (A : Oks P w K mg base tab ts fdv n) : FnOk P w K mg base CX0 (n + 1) (He.ga K "_law_pool") (fdv 1) ["_law_script", "_law_k"] (spV K (FAof K ts) (call tab (n + 1) 1)) := by
  refine def_ok (Φ := call tab n) (d := d_law_pool) (T.fn 1 rfl) sc1 rfl rfl fun cdv A0 outer s H E hr => ?_
  have AL := alls_of T A (ball T)
  have hu1 := hu_of hr
  have hu64 := hu64_of hr
  have hu65 := hu65_of hr
  exact (ss_cons (ss_set sc1.nd rfl (by first | exact .inl rfl | exact .inr rfl) (by first | exact .inl rfl | exact .inr rfl) (sx_call (A 0 rfl) hr rfl (T.glo 0 rfl) (T.fn 0 rfl).kp (b0 T) (sg_cons (sx_var (i := 0) rfl (by first | exact .inl rfl | exact .inr (.inl rfl) | exact .inr (.inr rfl))) (sg_cons (sx_var (i := 1) rfl (by first | exact .inl rfl | exact .inr (.inl rfl) | exact .inr (.inr rfl))) sg_nil))))
    (ss_cons (ss_set sc1.nd rfl (by first | exact .inl rfl | exact .inr rfl) (by first | exact .inl rfl | exact .inr rfl) (sx_mod (sx_mul (sx_add (sx_add (sx_mod (sx_var (i := 2) rfl (by first | exact .inl rfl | exact .inr (.inl rfl) | exact .inr (.inr rfl))) sx_int) (sx_mul (sx_mul sx_int (sx_var (i := 1) rfl (by first | exact .inl rfl | exact .inr (.inl rfl) | exact .inr (.inr rfl)))) (sx_var (i := 1) rfl (by first | exact .inl rfl | exact .inr (.inl rfl) | exact .inr (.inr rfl))))) sx_int) sx_int) sx_int))
    (ss_cons (ss_if (sp_lt (sx_var (i := 2) rfl (by first | exact .inl rfl | exact .inr (.inl rfl) | exact .inr (.inr rfl))) (sx_pow sx_int sx_int)) (ss_one (ss_set sc1.nd rfl (by first | exact .inl rfl | exact .inr rfl) (by first | exact .inl rfl | exact .inr rfl) sx_int)) ss_nil)
    (ss_one (ss_ret (sx_lst (sa_cons (sx_var (i := 2) rfl (by first | exact .inl rfl | exact .inr (.inl rfl) | exact .inr (.inr rfl))) (sa_cons (sx_mod (sx_mul (sx_var (i := 3) rfl (by first | exact .inl rfl | exact .inr (.inl rfl) | exact .inr (.inr rfl))) (sx_var (i := 3) rfl (by first | exact .inl rfl | exact .inr (.inl rfl) | exact .inr (.inr rfl)))) sx_int) sa_nil))))))))
theorem ok2 (T : Txt K mg ts fr ci cs fdv) (A : Oks P w K mg base tab ts fdv n) : FnOk P w K mg base CX0 (n + 1) (He.ga K "_law_take") (fdv 2) ["_law_pool_here", "_law_many"] (spV K (FAof K ts) (call tab (n + 1) 2)) := by
  refine def_ok (Φ := call tab n) (d := d_law_take) (T.fn 2 rfl) sc2 rfl rfl fun cdv A0 outer s H E hr => ?_
  have AL := alls_of T A (ball T)
  have hu1 := hu_of hr
  have hu64 := hu64_of hr
  have hu65 := hu65_of hr
  exact (ss_cons (ss_if (sp_gt (sx_ix hu1 (sx_var (i := 0) rfl (by first | exact .inl rfl | exact .inr (.inl rfl) | exact .inr (.inr rfl))) sx_int) sx_int) (ss_cons (ss_set sc2.nd rfl (by first | exact .inl rfl | exact .inr rfl) (by first | exact .inl rfl | exact .inr rfl) (sx_mod (sx_ix hu1 (sx_var (i := 0) rfl (by first | exact .inl rfl | exact .inr (.inl rfl) | exact .inr (.inr rfl))) sx_int) (sx_var (i := 1) rfl (by first | exact .inl rfl | exact .inr (.inl rfl) | exact .inr (.inr rfl)))))
    (ss_cons (ss_setIx rfl (by first | exact .inl rfl | exact .inr (.inl rfl) | exact .inr (.inr rfl)) (sx_fdiv (sx_ix hu1 (sx_var (i := 0) rfl (by first | exact .inl rfl | exact .inr (.inl rfl) | exact .inr (.inr rfl))) sx_int) (sx_var (i := 1) rfl (by first | exact .inl rfl | exact .inr (.inl rfl) | exact .inr (.inr rfl)))) sx_int hu1)
    (ss_one (ss_ret (sx_var (i := 2) rfl (by first | exact .inl rfl | exact .inr (.inl rfl) | exact .inr (.inr rfl))))))) ss_nil)
    (ss_cons (ss_setIx rfl (by first | exact .inl rfl | exact .inr (.inl rfl) | exact .inr (.inr rfl)) (sx_mod (sx_add (sx_mul (sx_ix hu1 (sx_var (i := 0) rfl (by first | exact .inl rfl | exact .inr (.inl rfl) | exact .inr (.inr rfl))) sx_int) sx_int) sx_int) sx_int) sx_int hu1)
    (ss_one (ss_ret (sx_mod (sx_fdiv (sx_mod (sx_mul (sx_ix hu1 (sx_var (i := 0) rfl (by first | exact .inl rfl | exact .inr (.inl rfl) | exact .inr (.inr rfl))) sx_int) (sx_ix hu1 (sx_var (i := 0) rfl (by first | exact .inl rfl | exact .inr (.inl rfl) | exact .inr (.inr rfl))) sx_int)) sx_int) sx_int) (sx_var (i := 1) rfl (by first | exact .inl rfl | exact .inr (.inl rfl) | exact .inr (.inr rfl))))))))
theorem ok3 (T : Txt K mg ts fr ci cs fdv) (A : Oks P w K mg base tab ts fdv n) : FnOk P w K mg base CX0 (n + 1) (He.ga K "_law_mark") (fdv 3) ["_law_numbers"] (spV K (FAof K ts) (call tab (n + 1) 3)) := by
  refine def_ok (Φ := call tab n) (d := d_law_mark_k39) (T.fn 3 rfl) sc3 rfl rfl fun cdv A0 outer s H E hr => ?_
  have AL := alls_of T A (ball T)
  have hu1 := hu_of hr
  have hu64 := hu64_of hr
  have hu65 := hu65_of hr
  exact (ss_cons (ss_set sc3.nd rfl (by first | exact .inl rfl | exact .inr rfl) (by first | exact .inl rfl | exact .inr rfl) (sx_str (by decide +kernel) (by decide +kernel)))
    (ss_cons (ss_forN (i := 0) rfl (by first | exact .inl rfl | exact .inr (.inl rfl) | exact .inr (.inr rfl)) (pg_v (i := 2) sc3.nd rfl (by first | exact .inl rfl | exact .inr rfl) (by first | exact .inl rfl | exact .inr rfl)) (ss_one (ss_for (sx_lst (sa_cons sx_int (sa_cons sx_int (sa_cons sx_int (sa_cons sx_int (sa_cons sx_int (sa_cons sx_int (sa_cons sx_int (sa_cons sx_int (sa_cons sx_int (sa_cons sx_int (sa_cons sx_int (sa_cons sx_int sa_nil))))))))))))) (pg_v (i := 3) sc3.nd rfl (by first | exact .inl rfl | exact .inr rfl) (by first | exact .inl rfl | exact .inr rfl)) (ss_one (ss_set sc3.nd rfl (by first | exact .inl rfl | exact .inr rfl) (by first | exact .inl rfl | exact .inr rfl) (sx_add (sx_var (i := 1) rfl (by first | exact .inl rfl | exact .inr (.inl rfl) | exact .inr (.inr rfl))) (sx_str1 rfl (T.free 1 rfl) (sx_mod (sx_fdiv (sx_var (i := 2) rfl (by first | exact .inl rfl | exact .inr (.inl rfl) | exact .inr (.inr rfl))) (sx_var (i := 3) rfl (by first | exact .inl rfl | exact .inr (.inl rfl) | exact .inr (.inr rfl)))) sx_int))))))))
    (ss_one (ss_ret (sx_var (i := 1) rfl (by first | exact .inl rfl | exact .inr (.inl rfl) | exact .inr (.inr rfl)))))))
theorem ok4 (T : Txt K mg ts fr ci cs fdv) (A : Oks P w K mg base tab ts fdv n) : FnOk P w K mg base CX0 (n + 1) (He.ga K "_law_odd_mark") (fdv 4) ["_law_pool_here", "_law_root", "_law_far"] (spV K (FAof K ts) (call tab (n + 1) 4)) := by
  refine def_ok (Φ := call tab n) (d := d_law_odd_mark) (T.fn 4 rfl) sc4 rfl rfl fun cdv A0 outer s H E hr => ?_
  have AL := alls_of T A (ball T)
  have hu1 := hu_of hr
  have hu64 := hu64_of hr
  have hu65 := hu65_of hr
  exact (ss_cons (ss_set sc4.nd rfl (by first | exact .inl rfl | exact .inr rfl) (by first | exact .inl rfl | exact .inr rfl) (sx_call (A 3 rfl) hr rfl (T.glo 3 rfl) (T.fn 3 rfl).kp (b3 T) (sg_cons (sx_lst (sa_cons (sx_var (i := 1) rfl (by first | exact .inl rfl | exact .inr (.inl rfl) | exact .inr (.inr rfl))) (sa_cons (sx_var (i := 2) rfl (by first | exact .inl rfl | exact .inr (.inl rfl) | exact .inr (.inr rfl))) sa_nil))) sg_nil)))
    (ss_cons (ss_set sc4.nd rfl (by first | exact .inl rfl | exact .inr rfl) (by first | exact .inl rfl | exact .inr rfl) (sx_lst (sa_cons sx_non (sa_cons (sx_str (by decide +kernel) (by decide +kernel)) (sa_cons (sx_sl (sx_var (i := 3) rfl (by first | exact .inl rfl | exact .inr (.inl rfl) | exact .inr (.inr rfl))) so_none (so_some (sx_neg sx_int))) (sa_cons (sx_add (sx_var (i := 3) rfl (by first | exact .inl rfl | exact .inr (.inl rfl) | exact .inr (.inr rfl))) (sx_str (by decide +kernel) (by decide +kernel))) (sa_cons (sx_add (sx_var (i := 3) rfl (by first | exact .inl rfl | exact .inr (.inl rfl) | exact .inr (.inr rfl))) (sx_var (i := 3) rfl (by first | exact .inl rfl | exact .inr (.inl rfl) | exact .inr (.inr rfl)))) (sa_cons (sx_str (by decide +kernel) (by decide +kernel)) (sa_cons (sx_sl (sx_var (i := 3) rfl (by first | exact .inl rfl | exact .inr (.inl rfl) | exact .inr (.inr rfl))) so_none (so_some sx_int)) (sa_cons (sx_add (sx_var (i := 3) rfl (by first | exact .inl rfl | exact .inr (.inl rfl) | exact .inr (.inr rfl))) (sx_call (A 3 rfl) hr rfl (T.glo 3 rfl) (T.fn 3 rfl).kp (b3 T) (sg_cons (sx_lst (sa_cons sx_int sa_nil)) sg_nil))) sa_nil))))))))))
    (ss_one (ss_ret (sx_ix hu1 (sx_var (i := 4) rfl (by first | exact .inl rfl | exact .inr (.inl rfl) | exact .inr (.inr rfl))) (sx_call (A 2 rfl) hr rfl (T.glo 2 rfl) (T.fn 2 rfl).kp (b2 T) (sg_io (i := 0) rfl (by first | exact .inl rfl | exact .inr (.inl rfl) | exact .inr (.inr rfl)) (sg_cons sx_int sg_nil))))))))
theorem ok5 (T : Txt K mg ts fr ci cs fdv) (A : Oks P w K mg base tab ts fdv n) : FnOk P w K mg base CX0 (n + 1) (He.ga K "_law_end") (fdv 5) ["_law_pool_here", "_law_root", "_law_far", "_law_price"] (spV K (FAof K ts) (call tab (n + 1) 5)) := by
  refine def_ok (Φ := call tab n) (d := d_law_end) (T.fn 5 rfl) sc5 rfl rfl fun cdv A0 outer s H E hr => ?_
  have AL := alls_of T A (ball T)
  have hu1 := hu_of hr
  have hu64 := hu64_of hr
  have hu65 := hu65_of hr
  exact (ss_cons (ss_set sc5.nd rfl (by first | exact .inl rfl | exact .inr rfl) (by first | exact .inl rfl | exact .inr rfl) (sx_var (i := 1) rfl (by first | exact .inl rfl | exact .inr (.inl rfl) | exact .inr (.inr rfl))))
    (ss_cons (ss_if (sp_eq hu64 (sx_call (A 2 rfl) hr rfl (T.glo 2 rfl) (T.fn 2 rfl).kp (b2 T) (sg_io (i := 0) rfl (by first | exact .inl rfl | exact .inr (.inl rfl) | exact .inr (.inr rfl)) (sg_cons sx_int sg_nil))) sx_int) (ss_one (ss_set sc5.nd rfl (by first | exact .inl rfl | exact .inr rfl) (by first | exact .inl rfl | exact .inr rfl) (sx_mod (sx_add (sx_add (sx_var (i := 1) rfl (by first | exact .inl rfl | exact .inr (.inl rfl) | exact .inr (.inr rfl))) sx_int) (sx_call (A 2 rfl) hr rfl (T.glo 2 rfl) (T.fn 2 rfl).kp (b2 T) (sg_io (i := 0) rfl (by first | exact .inl rfl | exact .inr (.inl rfl) | exact .inr (.inr rfl)) (sg_cons sx_int sg_nil)))) sx_int))) ss_nil)
    (ss_cons (ss_set sc5.nd rfl (by first | exact .inl rfl | exact .inr rfl) (by first | exact .inl rfl | exact .inr rfl) (sx_call (A 2 rfl) hr rfl (T.glo 2 rfl) (T.fn 2 rfl).kp (b2 T) (sg_io (i := 0) rfl (by first | exact .inl rfl | exact .inr (.inl rfl) | exact .inr (.inr rfl)) (sg_cons sx_int sg_nil))))
    (ss_cons (ss_set sc5.nd rfl (by first | exact .inl rfl | exact .inr rfl) (by first | exact .inl rfl | exact .inr rfl) (sx_lst (sa_cons (sx_sub (sx_var (i := 2) rfl (by first | exact .inl rfl | exact .inr (.inl rfl) | exact .inr (.inr rfl))) sx_int) (sa_cons (sx_add (sx_var (i := 2) rfl (by first | exact .inl rfl | exact .inr (.inl rfl) | exact .inr (.inr rfl))) sx_int) (sa_cons (sx_add (sx_var (i := 2) rfl (by first | exact .inl rfl | exact .inr (.inl rfl) | exact .inr (.inr rfl))) sx_int) (sa_cons (sx_sub (sx_var (i := 2) rfl (by first | exact .inl rfl | exact .inr (.inl rfl) | exact .inr (.inr rfl))) (sx_var (i := 3) rfl (by first | exact .inl rfl | exact .inr (.inl rfl) | exact .inr (.inr rfl)))) (sa_cons (sx_add (sx_var (i := 2) rfl (by first | exact .inl rfl | exact .inr (.inl rfl) | exact .inr (.inr rfl))) (sx_var (i := 3) rfl (by first | exact .inl rfl | exact .inr (.inl rfl) | exact .inr (.inr rfl)))) (sa_cons (sx_add (sx_var (i := 2) rfl (by first | exact .inl rfl | exact .inr (.inl rfl) | exact .inr (.inr rfl))) (sx_var (i := 3) rfl (by first | exact .inl rfl | exact .inr (.inl rfl) | exact .inr (.inr rfl)))) (sa_cons (sx_var (i := 2) rfl (by first | exact .inl rfl | exact .inr (.inl rfl) | exact .inr (.inr rfl))) (sa_cons (sx_call (A 2 rfl) hr rfl (T.glo 2 rfl) (T.fn 2 rfl).kp (b2 T) (sg_io (i := 0) rfl (by first | exact .inl rfl | exact .inr (.inl rfl) | exact .inr (.inr rfl)) (sg_cons sx_int sg_nil))) sa_nil))))))))))
    (ss_cons (ss_set sc5.nd rfl (by first | exact .inl rfl | exact .inr rfl) (by first | exact .inl rfl | exact .inr rfl) (sx_max2 rfl (T.free 2 rfl) sx_int (sx_min2 rfl (T.free 3 rfl) sx_int (sx_ix hu1 (sx_var (i := 6) rfl (by first | exact .inl rfl | exact .inr (.inl rfl) | exact .inr (.inr rfl))) (sx_var (i := 5) rfl (by first | exact .inl rfl | exact .inr (.inl rfl) | exact .inr (.inr rfl)))))))
    (ss_cons (ss_if (sp_eq hu64 (sx_call (A 2 rfl) hr rfl (T.glo 2 rfl) (T.fn 2 rfl).kp (b2 T) (sg_io (i := 0) rfl (by first | exact .inl rfl | exact .inr (.inl rfl) | exact .inr (.inr rfl)) (sg_cons sx_int sg_nil))) sx_int) (ss_one (ss_ret (sx_call (A 4 rfl) hr rfl (T.glo 4 rfl) (T.fn 4 rfl).kp (b4 T) (sg_io (i := 0) rfl (by first | exact .inl rfl | exact .inr (.inl rfl) | exact .inr (.inr rfl)) (sg_cons (sx_var (i := 4) rfl (by first | exact .inl rfl | exact .inr (.inl rfl) | exact .inr (.inr rfl))) (sg_cons (sx_var (i := 7) rfl (by first | exact .inl rfl | exact .inr (.inl rfl) | exact .inr (.inr rfl))) sg_nil)))))) ss_nil)
    (ss_one (ss_ret (sx_call (A 3 rfl) hr rfl (T.glo 3 rfl) (T.fn 3 rfl).kp (b3 T) (sg_cons (sx_lst (sa_cons (sx_var (i := 4) rfl (by first | exact .inl rfl | exact .inr (.inl rfl) | exact .inr (.inr rfl))) (sa_cons (sx_var (i := 7) rfl (by first | exact .inl rfl | exact .inr (.inl rfl) | exact .inr (.inr rfl))) sa_nil))) sg_nil))))))))))
theorem ok6 (T : Txt K mg ts fr ci cs fdv) (A : Oks P w K mg base tab ts fdv n) : FnOk P w K mg base CX0 (n + 1) (He.ga K "_law_pair_view") (fdv 6) ["_law_pool_here"] (spV K (FAof K ts) (call tab (n + 1) 6)) := by
  refine def_ok (Φ := call tab n) (d := d_law_pair_view) (T.fn 6 rfl) sc6 rfl rfl fun cdv A0 outer s H E hr => ?_
  have AL := alls_of T A (ball T)
  have hu1 := hu_of hr
  have hu64 := hu64_of hr
  have hu65 := hu65_of hr
  exact (ss_cons (ss_set sc6.nd rfl (by first | exact .inl rfl | exact .inr rfl) (by first | exact .inl rfl | exact .inr rfl) (sx_ix hu1 (sx_lst (sa_cons (sx_call (A 2 rfl) hr rfl (T.glo 2 rfl) (T.fn 2 rfl).kp (b2 T) (sg_io (i := 0) rfl (by first | exact .inl rfl | exact .inr (.inl rfl) | exact .inr (.inr rfl)) (sg_cons sx_int sg_nil))) (sa_cons (sx_call (A 2 rfl) hr rfl (T.glo 2 rfl) (T.fn 2 rfl).kp (b2 T) (sg_io (i := 0) rfl (by first | exact .inl rfl | exact .inr (.inl rfl) | exact .inr (.inr rfl)) (sg_cons sx_int sg_nil))) sa_nil))) (sx_call (A 2 rfl) hr rfl (T.glo 2 rfl) (T.fn 2 rfl).kp (b2 T) (sg_io (i := 0) rfl (by first | exact .inl rfl | exact .inr (.inl rfl) | exact .inr (.inr rfl)) (sg_cons sx_int sg_nil)))))
    (ss_cons (ss_set sc6.nd rfl (by first | exact .inl rfl | exact .inr rfl) (by first | exact .inl rfl | exact .inr rfl) (sx_ix hu1 (sx_lst (sa_cons (sx_var (i := 1) rfl (by first | exact .inl rfl | exact .inr (.inl rfl) | exact .inr (.inr rfl))) (sa_cons (sx_mod (sx_add (sx_add (sx_var (i := 1) rfl (by first | exact .inl rfl | exact .inr (.inl rfl) | exact .inr (.inr rfl))) sx_int) (sx_call (A 2 rfl) hr rfl (T.glo 2 rfl) (T.fn 2 rfl).kp (b2 T) (sg_io (i := 0) rfl (by first | exact .inl rfl | exact .inr (.inl rfl) | exact .inr (.inr rfl)) (sg_cons sx_int sg_nil)))) sx_int) sa_nil))) (sx_fdiv (sx_call (A 2 rfl) hr rfl (T.glo 2 rfl) (T.fn 2 rfl).kp (b2 T) (sg_io (i := 0) rfl (by first | exact .inl rfl | exact .inr (.inl rfl) | exact .inr (.inr rfl)) (sg_cons sx_int sg_nil))) sx_int)))
    (ss_cons (ss_set sc6.nd rfl (by first | exact .inl rfl | exact .inr rfl) (by first | exact .inl rfl | exact .inr rfl) (sx_ix hu1 (sx_lst (sa_cons sx_int (sa_cons (sx_call (A 2 rfl) hr rfl (T.glo 2 rfl) (T.fn 2 rfl).kp (b2 T) (sg_io (i := 0) rfl (by first | exact .inl rfl | exact .inr (.inl rfl) | exact .inr (.inr rfl)) (sg_cons sx_int sg_nil))) (sa_cons (sx_call (A 2 rfl) hr rfl (T.glo 2 rfl) (T.fn 2 rfl).kp (b2 T) (sg_io (i := 0) rfl (by first | exact .inl rfl | exact .inr (.inl rfl) | exact .inr (.inr rfl)) (sg_cons sx_int sg_nil))) sa_nil)))) (sx_call (A 2 rfl) hr rfl (T.glo 2 rfl) (T.fn 2 rfl).kp (b2 T) (sg_io (i := 0) rfl (by first | exact .inl rfl | exact .inr (.inl rfl) | exact .inr (.inr rfl)) (sg_cons sx_int sg_nil)))))
    (ss_cons (ss_if (PW.pt (sw_and (sp_ne hu64 (sx_var (i := 2) rfl (by first | exact .inl rfl | exact .inr (.inl rfl) | exact .inr (.inr rfl))) (sx_var (i := 1) rfl (by first | exact .inl rfl | exact .inr (.inl rfl) | exact .inr (.inr rfl)))) (sw_one (sp_gt (sx_call (A 2 rfl) hr rfl (T.glo 2 rfl) (T.fn 2 rfl).kp (b2 T) (sg_io (i := 0) rfl (by first | exact .inl rfl | exact .inr (.inl rfl) | exact .inr (.inr rfl)) (sg_cons sx_int sg_nil))) sx_int)))) (ss_one (ss_set sc6.nd rfl (by first | exact .inl rfl | exact .inr rfl) (by first | exact .inl rfl | exact .inr rfl) (sx_max2 rfl (T.free 2 rfl) sx_int (sx_var (i := 3) rfl (by first | exact .inl rfl | exact .inr (.inl rfl) | exact .inr (.inr rfl)))))) ss_nil)
    (ss_cons (ss_if (PW.pt (sw_and (sp_eq hu64 (sx_var (i := 2) rfl (by first | exact .inl rfl | exact .inr (.inl rfl) | exact .inr (.inr rfl))) (sx_var (i := 1) rfl (by first | exact .inl rfl | exact .inr (.inl rfl) | exact .inr (.inr rfl)))) (sw_one (sp_gt (sx_call (A 2 rfl) hr rfl (T.glo 2 rfl) (T.fn 2 rfl).kp (b2 T) (sg_io (i := 0) rfl (by first | exact .inl rfl | exact .inr (.inl rfl) | exact .inr (.inr rfl)) (sg_cons sx_int sg_nil))) sx_int)))) (ss_one (ss_set sc6.nd rfl (by first | exact .inl rfl | exact .inr rfl) (by first | exact .inl rfl | exact .inr rfl) sx_int)) ss_nil)
    (ss_cons (ss_set sc6.nd rfl (by first | exact .inl rfl | exact .inr rfl) (by first | exact .inl rfl | exact .inr rfl) (sx_lst sa_nil))
    (ss_cons (ss_set sc6.nd rfl (by first | exact .inl rfl | exact .inr rfl) (by first | exact .inl rfl | exact .inr rfl) (sx_call (A 2 rfl) hr rfl (T.glo 2 rfl) (T.fn 2 rfl).kp (b2 T) (sg_io (i := 0) rfl (by first | exact .inl rfl | exact .inr (.inl rfl) | exact .inr (.inr rfl)) (sg_cons sx_int sg_nil))))
    (ss_cons (ss_set sc6.nd rfl (by first | exact .inl rfl | exact .inr rfl) (by first | exact .inl rfl | exact .inr rfl) (sx_call (A 2 rfl) hr rfl (T.glo 2 rfl) (T.fn 2 rfl).kp (b2 T) (sg_io (i := 0) rfl (by first | exact .inl rfl | exact .inr (.inl rfl) | exact .inr (.inr rfl)) (sg_cons sx_int sg_nil))))
    (ss_cons (ss_set sc6.nd rfl (by first | exact .inl rfl | exact .inr rfl) (by first | exact .inl rfl | exact .inr rfl) (sx_call (A 2 rfl) hr rfl (T.glo 2 rfl) (T.fn 2 rfl).kp (b2 T) (sg_io (i := 0) rfl (by first | exact .inl rfl | exact .inr (.inl rfl) | exact .inr (.inr rfl)) (sg_cons (sx_ix hu1 (sx_lst (sa_cons sx_int (sa_cons sx_int (sa_cons sx_int sa_nil)))) (sx_call (A 2 rfl) hr rfl (T.glo 2 rfl) (T.fn 2 rfl).kp (b2 T) (sg_io (i := 0) rfl (by first | exact .inl rfl | exact .inr (.inl rfl) | exact .inr (.inr rfl)) (sg_cons sx_int sg_nil)))) sg_nil))))
    (ss_cons (ss_set sc6.nd rfl (by first | exact .inl rfl | exact .inr rfl) (by first | exact .inl rfl | exact .inr rfl) (sx_call (A 2 rfl) hr rfl (T.glo 2 rfl) (T.fn 2 rfl).kp (b2 T) (sg_io (i := 0) rfl (by first | exact .inl rfl | exact .inr (.inl rfl) | exact .inr (.inr rfl)) (sg_cons (sx_max2 rfl (T.free 2 rfl) sx_int (sx_var (i := 7) rfl (by first | exact .inl rfl | exact .inr (.inl rfl) | exact .inr (.inr rfl)))) sg_nil))))
    (ss_cons (ss_set sc6.nd rfl (by first | exact .inl rfl | exact .inr rfl) (by first | exact .inl rfl | exact .inr rfl) (sx_call (A 2 rfl) hr rfl (T.glo 2 rfl) (T.fn 2 rfl).kp (b2 T) (sg_io (i := 0) rfl (by first | exact .inl rfl | exact .inr (.inl rfl) | exact .inr (.inr rfl)) (sg_cons (sx_mul sx_int (sx_max2 rfl (T.free 2 rfl) sx_int (sx_var (i := 7) rfl (by first | exact .inl rfl | exact .inr (.inl rfl) | exact .inr (.inr rfl))))) sg_nil))))
    (ss_cons (ss_range1 rfl (T.free 4 rfl) (sa_cons (sx_var (i := 7) rfl (by first | exact .inl rfl | exact .inr (.inl rfl) | exact .inr (.inr rfl))) sa_nil) (pg_v (i := 10) sc6.nd rfl (by first | exact .inl rfl | exact .inr rfl) (by first | exact .inl rfl | exact .inr rfl)) (ss_cons (ss_set sc6.nd rfl (by first | exact .inl rfl | exact .inr rfl) (by first | exact .inl rfl | exact .inr rfl) (sx_add sx_int (sx_call (A 2 rfl) hr rfl (T.glo 2 rfl) (T.fn 2 rfl).kp (b2 T) (sg_io (i := 0) rfl (by first | exact .inl rfl | exact .inr (.inl rfl) | exact .inr (.inr rfl)) (sg_cons (sx_ix hu1 (sx_lst (sa_cons sx_int (sa_cons sx_int (sa_cons sx_int sa_nil)))) (sx_call (A 2 rfl) hr rfl (T.glo 2 rfl) (T.fn 2 rfl).kp (b2 T) (sg_io (i := 0) rfl (by first | exact .inl rfl | exact .inr (.inl rfl) | exact .inr (.inr rfl)) (sg_cons sx_int sg_nil)))) sg_nil)))))
    (ss_cons (ss_set sc6.nd rfl (by first | exact .inl rfl | exact .inr rfl) (by first | exact .inl rfl | exact .inr rfl) (sx_eq hu64 (sx_call (A 2 rfl) hr rfl (T.glo 2 rfl) (T.fn 2 rfl).kp (b2 T) (sg_io (i := 0) rfl (by first | exact .inl rfl | exact .inr (.inl rfl) | exact .inr (.inr rfl)) (sg_cons sx_int sg_nil))) sx_int))
    (ss_cons (ss_set sc6.nd rfl (by first | exact .inl rfl | exact .inr rfl) (by first | exact .inl rfl | exact .inr rfl) (sx_ix hu1 (sx_lst (sa_cons (sx_var (i := 13) rfl (by first | exact .inl rfl | exact .inr (.inl rfl) | exact .inr (.inr rfl))) (sa_cons sx_int sa_nil))) (sx_var (i := 5) rfl (by first | exact .inl rfl | exact .inr (.inl rfl) | exact .inr (.inr rfl)))))
    (ss_cons (ss_set sc6.nd rfl (by first | exact .inl rfl | exact .inr rfl) (by first | exact .inl rfl | exact .inr rfl) (sx_call (A 5 rfl) hr rfl (T.glo 5 rfl) (T.fn 5 rfl).kp (b5 T) (sg_io (i := 0) rfl (by first | exact .inl rfl | exact .inr (.inl rfl) | exact .inr (.inr rfl)) (sg_cons (sx_var (i := 2) rfl (by first | exact .inl rfl | exact .inr (.inl rfl) | exact .inr (.inr rfl))) (sg_cons (sx_var (i := 3) rfl (by first | exact .inl rfl | exact .inr (.inl rfl) | exact .inr (.inr rfl))) (sg_cons (sx_var (i := 15) rfl (by first | exact .inl rfl | exact .inr (.inl rfl) | exact .inr (.inr rfl))) sg_nil))))))
    (ss_cons (ss_if (PW.pt (sw_and (sp_eq hu64 (sx_var (i := 6) rfl (by first | exact .inl rfl | exact .inr (.inl rfl) | exact .inr (.inr rfl))) sx_int) (sw_one (sp_ne hu64 (sx_var (i := 10) rfl (by first | exact .inl rfl | exact .inr (.inl rfl) | exact .inr (.inr rfl))) (sx_var (i := 9) rfl (by first | exact .inl rfl | exact .inr (.inl rfl) | exact .inr (.inr rfl))))))) (ss_one (ss_set sc6.nd rfl (by first | exact .inl rfl | exact .inr rfl) (by first | exact .inl rfl | exact .inr rfl) (sx_call (A 3 rfl) hr rfl (T.glo 3 rfl) (T.fn 3 rfl).kp (b3 T) (sg_cons (sx_lst (sa_cons (sx_var (i := 2) rfl (by first | exact .inl rfl | exact .inr (.inl rfl) | exact .inr (.inr rfl))) (sa_cons (sx_ix hu1 (sx_lst (sa_cons (sx_min2 rfl (T.free 3 rfl) sx_int (sx_add (sx_var (i := 3) rfl (by first | exact .inl rfl | exact .inr (.inl rfl) | exact .inr (.inr rfl))) (sx_var (i := 15) rfl (by first | exact .inl rfl | exact .inr (.inl rfl) | exact .inr (.inr rfl))))) (sa_cons (sx_max2 rfl (T.free 2 rfl) sx_int (sx_sub (sx_var (i := 3) rfl (by first | exact .inl rfl | exact .inr (.inl rfl) | exact .inr (.inr rfl))) (sx_var (i := 15) rfl (by first | exact .inl rfl | exact .inr (.inl rfl) | exact .inr (.inr rfl))))) sa_nil))) (sx_int1 rfl (T.free 5 rfl) (sx_and (sx_eq hu64 (sx_var (i := 10) rfl (by first | exact .inl rfl | exact .inr (.inl rfl) | exact .inr (.inr rfl))) (sx_var (i := 8) rfl (by first | exact .inl rfl | exact .inr (.inl rfl) | exact .inr (.inr rfl)))) (sx_one (sx_gt (sx_var (i := 3) rfl (by first | exact .inl rfl | exact .inr (.inl rfl) | exact .inr (.inr rfl))) sx_int))))) sa_nil))) sg_nil)))) ss_nil)
    (ss_one (ss_expr (sx_append (i := 4) rfl (by first | exact .inl rfl | exact .inr (.inl rfl) | exact .inr (.inr rfl)) (sa_cons (sx_tup (sa_cons (sx_var (i := 13) rfl (by first | exact .inl rfl | exact .inr (.inl rfl) | exact .inr (.inr rfl))) (sa_cons (sx_or (sx_var (i := 14) rfl (by first | exact .inl rfl | exact .inr (.inl rfl) | exact .inr (.inr rfl))) (sx_one (sx_and (sx_eq hu64 (sx_var (i := 6) rfl (by first | exact .inl rfl | exact .inr (.inl rfl) | exact .inr (.inr rfl))) sx_int) (sx_one (sx_eq hu64 (sx_var (i := 10) rfl (by first | exact .inl rfl | exact .inr (.inl rfl) | exact .inr (.inr rfl))) (sx_var (i := 8) rfl (by first | exact .inl rfl | exact .inr (.inl rfl) | exact .inr (.inr rfl)))))))) (sa_cons (sx_var (i := 11) rfl (by first | exact .inl rfl | exact .inr (.inl rfl) | exact .inr (.inr rfl))) sa_nil)))) sa_nil))))))))))
    (ss_cons (ss_set sc6.nd rfl (by first | exact .inl rfl | exact .inr rfl) (by first | exact .inl rfl | exact .inr rfl) (sx_call (A 3 rfl) hr rfl (T.glo 3 rfl) (T.fn 3 rfl).kp (b3 T) (sg_cons (sx_lst (sa_cons (sx_var (i := 2) rfl (by first | exact .inl rfl | exact .inr (.inl rfl) | exact .inr (.inr rfl))) (sa_cons (sx_var (i := 3) rfl (by first | exact .inl rfl | exact .inr (.inl rfl) | exact .inr (.inr rfl))) sa_nil))) sg_nil)))
    (ss_cons (ss_if (sp_eq hu64 (sx_call (A 2 rfl) hr rfl (T.glo 2 rfl) (T.fn 2 rfl).kp (b2 T) (sg_io (i := 0) rfl (by first | exact .inl rfl | exact .inr (.inl rfl) | exact .inr (.inr rfl)) (sg_cons sx_int sg_nil))) sx_int) (ss_one (ss_set sc6.nd rfl (by first | exact .inl rfl | exact .inr rfl) (by first | exact .inl rfl | exact .inr rfl) (sx_call (A 4 rfl) hr rfl (T.glo 4 rfl) (T.fn 4 rfl).kp (b4 T) (sg_io (i := 0) rfl (by first | exact .inl rfl | exact .inr (.inl rfl) | exact .inr (.inr rfl)) (sg_cons (sx_var (i := 2) rfl (by first | exact .inl rfl | exact .inr (.inl rfl) | exact .inr (.inr rfl))) (sg_cons (sx_var (i := 3) rfl (by first | exact .inl rfl | exact .inr (.inl rfl) | exact .inr (.inr rfl))) sg_nil)))))) ss_nil)
    (ss_cons (ss_set sc6.nd rfl (by first | exact .inl rfl | exact .inr rfl) (by first | exact .inl rfl | exact .inr rfl) (sx_ix hu1 (sx_lst (sa_cons (sx_int1 rfl (T.free 5 rfl) (sx_eq hu64 (sx_var (i := 3) rfl (by first | exact .inl rfl | exact .inr (.inl rfl) | exact .inr (.inr rfl))) sx_int)) (sa_cons (sx_call (A 2 rfl) hr rfl (T.glo 2 rfl) (T.fn 2 rfl).kp (b2 T) (sg_io (i := 0) rfl (by first | exact .inl rfl | exact .inr (.inl rfl) | exact .inr (.inr rfl)) (sg_cons sx_int sg_nil))) sa_nil))) (sx_fdiv (sx_call (A 2 rfl) hr rfl (T.glo 2 rfl) (T.fn 2 rfl).kp (b2 T) (sg_io (i := 0) rfl (by first | exact .inl rfl | exact .inr (.inl rfl) | exact .inr (.inr rfl)) (sg_cons sx_int sg_nil))) sx_int)))
    (ss_one (ss_ret (sx_tup (sa_cons (sx_var (i := 1) rfl (by first | exact .inl rfl | exact .inr (.inl rfl) | exact .inr (.inr rfl))) (sa_cons (sx_var (i := 12) rfl (by first | exact .inl rfl | exact .inr (.inl rfl) | exact .inr (.inr rfl))) (sa_cons (sx_var (i := 11) rfl (by first | exact .inl rfl | exact .inr (.inl rfl) | exact .inr (.inr rfl))) (sa_cons (sx_var (i := 4) rfl (by first | exact .inl rfl | exact .inr (.inl rfl) | exact .inr (.inr rfl))) sa_nil))))))))))))))))))))))
theorem ok7 (T : Txt K mg ts fr ci cs fdv) (A : Oks P w K mg base tab ts fdv n) : FnOk P w K mg base CX0 (n + 1) (He.ga K "is_two") (fdv 7) ["mark"] (spV K (FAof K ts) (call tab (n + 1) 7)) := by
  refine def_ok (Φ := call tab n) (d := d_is_two) (T.fn 7 rfl) sc7 rfl rfl fun cdv A0 outer s H E hr => ?_
  have AL := alls_of T A (ball T)
  have hu1 := hu_of hr
  have hu64 := hu64_of hr
  have hu65 := hu65_of hr
  exact (ss_one (ss_ret (sx_and (sx_isNN (sx_var (i := 0) rfl (by first | exact .inl rfl | exact .inr (.inl rfl) | exact .inr (.inr rfl)))) (sx_one (sx_eq hu64 (sx_len rfl (T.free 0 rfl) (sx_var (i := 0) rfl (by first | exact .inl rfl | exact .inr (.inl rfl) | exact .inr (.inr rfl)))) sx_int)))))
theorem ok8 (T : Txt K mg ts fr ci cs fdv) (A : Oks P w K mg base tab ts fdv n) : FnOk P w K mg base CX0 (n + 1) (He.ga K "says_pairing") (fdv 8) ["view"] (spV K (FAof K ts) (call tab (n + 1) 8)) := by
  refine def_ok (Φ := call tab n) (d := d_says_pairing) (T.fn 8 rfl) sc8 rfl rfl fun cdv A0 outer s H E hr => ?_
  have AL := alls_of T A (ball T)
  have hu1 := hu_of hr
  have hu64 := hu64_of hr
  have hu65 := hu65_of hr
  exact (ss_cons (ss_set sc8.nd rfl (by first | exact .inl rfl | exact .inr rfl) (by first | exact .inl rfl | exact .inr rfl) (sx_ix hu1 (sx_var (i := 0) rfl (by first | exact .inl rfl | exact .inr (.inl rfl) | exact .inr (.inr rfl))) sx_int))
    (ss_cons (ss_if (sp_not (sp_val (sx_call (A 7 rfl) hr rfl (T.glo 7 rfl) (T.fn 7 rfl).kp (b7 T) (sg_cons (sx_var (i := 1) rfl (by first | exact .inl rfl | exact .inr (.inl rfl) | exact .inr (.inr rfl))) sg_nil)))) (ss_one (ss_ret sx_bl)) ss_nil)
    (ss_cons (ss_set sc8.nd rfl (by first | exact .inl rfl | exact .inr rfl) (by first | exact .inl rfl | exact .inr rfl) sx_int)
    (ss_cons (ss_for (sx_ix hu1 (sx_var (i := 0) rfl (by first | exact .inl rfl | exact .inr (.inl rfl) | exact .inr (.inr rfl))) sx_int) (pg_t rfl (pgs_v (i := 3) sc8.nd rfl (by first | exact .inl rfl | exact .inr rfl) (by first | exact .inl rfl | exact .inr rfl) (pgs_v (i := 4) sc8.nd rfl (by first | exact .inl rfl | exact .inr rfl) (by first | exact .inl rfl | exact .inr rfl) (pgs_v (i := 5) sc8.nd rfl (by first | exact .inl rfl | exact .inr rfl) (by first | exact .inl rfl | exact .inr rfl) pgs_n)))) (ss_cons (ss_if (PW.pt (sw_or (sp_not (sp_val (sx_call (A 7 rfl) hr rfl (T.glo 7 rfl) (T.fn 7 rfl).kp (b7 T) (sg_cons (sx_var (i := 5) rfl (by first | exact .inl rfl | exact .inr (.inl rfl) | exact .inr (.inr rfl))) sg_nil)))) (sw_or (sp_eq hu64 (sx_ix hu1 (sx_var (i := 5) rfl (by first | exact .inl rfl | exact .inr (.inl rfl) | exact .inr (.inr rfl))) sx_int) (sx_ix hu1 (sx_var (i := 1) rfl (by first | exact .inl rfl | exact .inr (.inl rfl) | exact .inr (.inr rfl))) sx_int)) (sw_one (sp_eq hu64 (sx_add (sx_ix hu1 (sx_var (i := 1) rfl (by first | exact .inl rfl | exact .inr (.inl rfl) | exact .inr (.inr rfl))) sx_int) (sx_ix hu1 (sx_var (i := 5) rfl (by first | exact .inl rfl | exact .inr (.inl rfl) | exact .inr (.inr rfl))) sx_int)) (sx_str (by decide +kernel) (by decide +kernel))))))) (ss_one (ss_ret sx_bl)) ss_nil)
    (ss_cons (ss_if (PW.pt (sw_and (sp_val (sx_var (i := 4) rfl (by first | exact .inl rfl | exact .inr (.inl rfl) | exact .inr (.inr rfl)))) (sw_one (sp_eq hu64 (sx_ix hu1 (sx_var (i := 1) rfl (by first | exact .inl rfl | exact .inr (.inl rfl) | exact .inr (.inr rfl))) sx_int) (sx_ix hu1 (sx_var (i := 5) rfl (by first | exact .inl rfl | exact .inr (.inl rfl) | exact .inr (.inr rfl))) sx_int))))) (ss_one (ss_ret sx_bl)) ss_nil)
    (ss_one (ss_set sc8.nd rfl (by first | exact .inl rfl | exact .inr rfl) (by first | exact .inl rfl | exact .inr rfl) (sx_add (sx_var (i := 2) rfl (by first | exact .inl rfl | exact .inr (.inl rfl) | exact .inr (.inr rfl))) (sx_int1 rfl (T.free 5 rfl) (sx_var (i := 4) rfl (by first | exact .inl rfl | exact .inr (.inl rfl) | exact .inr (.inr rfl))))))))))
    (ss_one (ss_ret (sx_or (sx_eq hu64 (sx_var (i := 2) rfl (by first | exact .inl rfl | exact .inr (.inl rfl) | exact .inr (.inr rfl))) sx_int) (sx_one (sx_and (sx_eq hu64 (sx_var (i := 2) rfl (by first | exact .inl rfl | exact .inr (.inl rfl) | exact .inr (.inr rfl))) sx_int) (sx_one (sx_eq hu64 (sx_ix hu1 (sx_var (i := 1) rfl (by first | exact .inl rfl | exact .inr (.inl rfl) | exact .inr (.inr rfl))) sx_int) (sx_str (by decide +kernel) (by decide +kernel)))))))))))))
theorem ok9 (T : Txt K mg ts fr ci cs fdv) (A : Oks P w K mg base tab ts fdv n) : FnOk P w K mg base CX0 (n + 1) (He.ga K "number_in") (fdv 9) ["field"] (spV K (FAof K ts) (call tab (n + 1) 9)) := by
  refine def_ok (Φ := call tab n) (d := d_number_in) (T.fn 9 rfl) sc9 rfl rfl fun cdv A0 outer s H E hr => ?_
  have AL := alls_of T A (ball T)
  have hu1 := hu_of hr
  have hu64 := hu64_of hr
  have hu65 := hu65_of hr
  exact (ss_cons (ss_set sc9.nd rfl (by first | exact .inl rfl | exact .inr rfl) (by first | exact .inl rfl | exact .inr rfl) sx_int)
    (ss_cons (ss_forN (i := 0) rfl (by first | exact .inl rfl | exact .inr (.inl rfl) | exact .inr (.inr rfl)) (pg_v (i := 2) sc9.nd rfl (by first | exact .inl rfl | exact .inr rfl) (by first | exact .inl rfl | exact .inr rfl)) (ss_one (ss_set sc9.nd rfl (by first | exact .inl rfl | exact .inr rfl) (by first | exact .inl rfl | exact .inr rfl) (sx_add (sx_mul sx_int (sx_var (i := 1) rfl (by first | exact .inl rfl | exact .inr (.inl rfl) | exact .inr (.inr rfl)))) (sx_int1 rfl (T.free 5 rfl) (sx_eq hu64 (sx_var (i := 2) rfl (by first | exact .inl rfl | exact .inr (.inl rfl) | exact .inr (.inr rfl))) (sx_str (by decide +kernel) (by decide +kernel))))))))
    (ss_one (ss_ret (sx_var (i := 1) rfl (by first | exact .inl rfl | exact .inr (.inl rfl) | exact .inr (.inr rfl)))))))
theorem ok10 (T : Txt K mg ts fr ci cs fdv) (A : Oks P w K mg base tab ts fdv n) : FnOk P w K mg base CX0 (n + 1) (He.ga K "is_mark") (fdv 10) ["thing"] (spV K (FAof K ts) (call tab (n + 1) 10)) := by
  refine def_ok (Φ := call tab n) (d := d_is_mark) (T.fn 10 rfl) sc10 rfl rfl fun cdv A0 outer s H E hr => ?_
  have AL := alls_of T A (ball T)
  have hu1 := hu_of hr
  have hu64 := hu64_of hr
  have hu65 := hu65_of hr
  exact (ss_cons (ss_if (PW.pt (sw_or (sp_not (sp_val (sx_isi .str boot_str' rfl (T.free 6 rfl) rfl (T.free 1 rfl) (sx_var (i := 0) rfl (by first | exact .inl rfl | exact .inr (.inl rfl) | exact .inr (.inr rfl)))))) (sw_one (sp_gt (sx_len rfl (T.free 0 rfl) (sx_var (i := 0) rfl (by first | exact .inl rfl | exact .inr (.inl rfl) | exact .inr (.inr rfl)))) (sx_gint rfl (T.int 0 rfl)))))) (ss_one (ss_ret sx_bl)) ss_nil)
    (ss_cons (ss_forN (i := 0) rfl (by first | exact .inl rfl | exact .inr (.inl rfl) | exact .inr (.inr rfl)) (pg_v (i := 1) sc10.nd rfl (by first | exact .inl rfl | exact .inr rfl) (by first | exact .inl rfl | exact .inr rfl)) (ss_one (ss_if (sp_nin hu65 (sx_var (i := 1) rfl (by first | exact .inl rfl | exact .inr (.inl rfl) | exact .inr (.inr rfl))) (sx_str (by decide +kernel) (by decide +kernel))) (ss_one (ss_ret sx_bl)) ss_nil)))
    (ss_one (ss_ret sx_bl))))
theorem ok11 (T : Txt K mg ts fr ci cs fdv) (A : Oks P w K mg base tab ts fdv n) : FnOk P w K mg base CX0 (n + 1) (He.ga K "fields_of") (fdv 11) ["thing"] (spV K (FAof K ts) (call tab (n + 1) 11)) := by
  refine def_ok (Φ := call tab n) (d := d_fields_of) (T.fn 11 rfl) sc11 rfl rfl fun cdv A0 outer s H E hr => ?_
  have AL := alls_of T A (ball T)
  have hu1 := hu_of hr
  have hu64 := hu64_of hr
  have hu65 := hu65_of hr
  exact (ss_cons (ss_if (PW.pt (sw_or (sp_not (sp_val (sx_call (A 10 rfl) hr rfl (T.glo 10 rfl) (T.fn 10 rfl).kp (b10 T) (sg_cons (sx_var (i := 0) rfl (by first | exact .inl rfl | exact .inr (.inl rfl) | exact .inr (.inr rfl))) sg_nil)))) (sw_one (sp_ne hu64 (sx_mod (sx_len rfl (T.free 0 rfl) (sx_var (i := 0) rfl (by first | exact .inl rfl | exact .inr (.inl rfl) | exact .inr (.inr rfl)))) (sx_gint rfl (T.int 1 rfl))) sx_int)))) (ss_one (ss_ret sx_non)) ss_nil)
    (ss_one (ss_ret (sx_comp [("at", 1)] (src_r3 rfl (T.free 4 rfl) (sa_cons sx_int (sa_cons (sx_len rfl (T.free 0 rfl) (sx_var (i := 0) rfl (by first | exact .inl rfl | exact .inr (.inl rfl) | exact .inr (.inr rfl)))) (sa_cons (sx_gint rfl (T.int 1 rfl)) sa_nil)))) (by rfl) (fun _ _ _ _ _ => (pg_v (i := 1) sc11.nd rfl (by first | exact .inl rfl | exact .inr rfl) (by first | exact .inl rfl | exact .inr rfl))) (fun _ _ _ _ _ => pts_yes) (fun _ _ _ _ _ => (sx_call (A 9 rfl) hr rfl (T.glo 9 rfl) (T.fn 9 rfl).kp (b9 T) (sg_cons (sx_sl (sx_var (i := 0) rfl (by first | exact .inl rfl | exact .inr (.inl rfl) | exact .inr (.inr rfl))) (so_some (sx_var (i := 1) rfl (by first | exact .inl rfl | exact .inr (.inl rfl) | exact .inr (.inr rfl)))) (so_some (sx_add (sx_var (i := 1) rfl (by first | exact .inl rfl | exact .inr (.inl rfl) | exact .inr (.inr rfl))) (sx_gint rfl (T.int 1 rfl))))) sg_nil))) sc11.nd))))
theorem ok12 (T : Txt K mg ts fr ci cs fdv) (A : Oks P w K mg base tab ts fdv n) : FnOk P w K mg base CX0 (n + 1) (He.ga K "fields_beside") (fdv 12) ["view", "least"] (spV K (FAof K ts) (call tab (n + 1) 12)) := by
  refine def_ok (Φ := call tab n) (d := d_fields_beside) (T.fn 12 rfl) sc12 rfl rfl fun cdv A0 outer s H E hr => ?_
  have AL := alls_of T A (ball T)
  have hu1 := hu_of hr
  have hu64 := hu64_of hr
  have hu65 := hu65_of hr
  exact (ss_cons (ss_set sc12.nd rfl (by first | exact .inl rfl | exact .inr rfl) (by first | exact .inl rfl | exact .inr rfl) (sx_call (A 11 rfl) hr rfl (T.glo 11 rfl) (T.fn 11 rfl).kp (b11 T) (sg_cons (sx_ix hu1 (sx_var (i := 0) rfl (by first | exact .inl rfl | exact .inr (.inl rfl) | exact .inr (.inr rfl))) sx_int) sg_nil)))
    (ss_cons (ss_if (PW.pt (sw_or (sp_isN (sx_var (i := 2) rfl (by first | exact .inl rfl | exact .inr (.inl rfl) | exact .inr (.inr rfl)))) (sw_one (sp_lt (sx_len rfl (T.free 0 rfl) (sx_var (i := 2) rfl (by first | exact .inl rfl | exact .inr (.inl rfl) | exact .inr (.inr rfl)))) (sx_var (i := 1) rfl (by first | exact .inl rfl | exact .inr (.inl rfl) | exact .inr (.inr rfl))))))) (ss_one (ss_ret sx_non)) ss_nil)
    (ss_cons (ss_set sc12.nd rfl (by first | exact .inl rfl | exact .inr rfl) (by first | exact .inl rfl | exact .inr rfl) (sx_lst sa_nil))
    (ss_cons (ss_for (sx_ix hu1 (sx_var (i := 0) rfl (by first | exact .inl rfl | exact .inr (.inl rfl) | exact .inr (.inr rfl))) sx_int) (pg_t rfl (pgs_v (i := 4) sc12.nd rfl (by first | exact .inl rfl | exact .inr rfl) (by first | exact .inl rfl | exact .inr rfl) (pgs_v (i := 5) sc12.nd rfl (by first | exact .inl rfl | exact .inr rfl) (by first | exact .inl rfl | exact .inr rfl) (pgs_v (i := 6) sc12.nd rfl (by first | exact .inl rfl | exact .inr rfl) (by first | exact .inl rfl | exact .inr rfl) pgs_n)))) (ss_cons (ss_set sc12.nd rfl (by first | exact .inl rfl | exact .inr rfl) (by first | exact .inl rfl | exact .inr rfl) (sx_call (A 11 rfl) hr rfl (T.glo 11 rfl) (T.fn 11 rfl).kp (b11 T) (sg_cons (sx_var (i := 6) rfl (by first | exact .inl rfl | exact .inr (.inl rfl) | exact .inr (.inr rfl))) sg_nil)))
    (ss_cons (ss_if (PW.pt (sw_or (sp_isN (sx_var (i := 7) rfl (by first | exact .inl rfl | exact .inr (.inl rfl) | exact .inr (.inr rfl)))) (sw_one (sp_lt (sx_len rfl (T.free 0 rfl) (sx_var (i := 7) rfl (by first | exact .inl rfl | exact .inr (.inl rfl) | exact .inr (.inr rfl)))) (sx_var (i := 1) rfl (by first | exact .inl rfl | exact .inr (.inl rfl) | exact .inr (.inr rfl))))))) (ss_one (ss_ret sx_non)) ss_nil)
    (ss_one (ss_expr (sx_append (i := 3) rfl (by first | exact .inl rfl | exact .inr (.inl rfl) | exact .inr (.inr rfl)) (sa_cons (sx_var (i := 7) rfl (by first | exact .inl rfl | exact .inr (.inl rfl) | exact .inr (.inr rfl))) sa_nil)))))))
    (ss_one (ss_ret (sx_tup (sa_cons (sx_var (i := 2) rfl (by first | exact .inl rfl | exact .inr (.inl rfl) | exact .inr (.inr rfl))) (sa_cons (sx_var (i := 3) rfl (by first | exact .inl rfl | exact .inr (.inl rfl) | exact .inr (.inr rfl))) sa_nil)))))))))
theorem ok13 (T : Txt K mg ts fr ci cs fdv) (A : Oks P w K mg base tab ts fdv n) : FnOk P w K mg base CX0 (n + 1) (He.ga K "falls_to_one") (fdv 13) ["far", "others"] (spV K (FAof K ts) (call tab (n + 1) 13)) := by
  refine def_ok (Φ := call tab n) (d := d_falls_to_one) (T.fn 13 rfl) sc13 rfl rfl fun cdv A0 outer s H E hr => ?_
  have AL := alls_of T A (ball T)
  have hu1 := hu_of hr
  have hu64 := hu64_of hr
  have hu65 := hu65_of hr
  exact (ss_cons (ss_forN (i := 1) rfl (by first | exact .inl rfl | exact .inr (.inl rfl) | exact .inr (.inr rfl)) (pg_v (i := 2) sc13.nd rfl (by first | exact .inl rfl | exact .inr rfl) (by first | exact .inl rfl | exact .inr rfl)) (ss_one (ss_if (sp_ne hu64 (sx_abs rfl (T.free 7 rfl) (sx_sub (sx_var (i := 2) rfl (by first | exact .inl rfl | exact .inr (.inl rfl) | exact .inr (.inr rfl))) (sx_var (i := 0) rfl (by first | exact .inl rfl | exact .inr (.inl rfl) | exact .inr (.inr rfl))))) sx_int) (ss_one (ss_ret sx_bl)) ss_nil)))
    (ss_one (ss_ret (sx_or (sx_eq hu64 (sx_var (i := 0) rfl (by first | exact .inl rfl | exact .inr (.inl rfl) | exact .inr (.inr rfl))) sx_int) (sx_one (sx_eq hu64 (sx_len rfl (T.free 0 rfl) (sx_compN [("other", 2)] rfl (by first | exact .inl rfl | exact .inr (.inl rfl) | exact .inr (.inr rfl)) (by rfl) (fun _ _ _ _ _ => (pg_v (i := 2) sc13.nd rfl (by first | exact .inl rfl | exact .inr rfl) (by first | exact .inl rfl | exact .inr rfl))) (fun _ _ _ _ _ => (pts_if (sp_lt (sx_var (i := 2) rfl (by first | exact .inl rfl | exact .inr (.inl rfl) | exact .inr (.inr rfl))) (sx_var (i := 0) rfl (by first | exact .inl rfl | exact .inr (.inl rfl) | exact .inr (.inr rfl)))))) (fun _ _ _ _ _ => (sx_var (i := 2) rfl (by first | exact .inl rfl | exact .inr (.inl rfl) | exact .inr (.inr rfl)))) sc13.nd)) sx_int))))))
theorem ok14 (T : Txt K mg ts fr ci cs fdv) (A : Oks P w K mg base tab ts fdv n) : FnOk P w K mg base CX0 (n + 1) (He.ga K "entry_of") (fdv 14) ["fields", "number"] (spV K (FAof K ts) (call tab (n + 1) 14)) := by
  refine def_ok (Φ := call tab n) (d := d_entry_of) (T.fn 14 rfl) sc14 rfl rfl fun cdv A0 outer s H E hr => ?_
  have AL := alls_of T A (ball T)
  have hu1 := hu_of hr
  have hu64 := hu64_of hr
  have hu65 := hu65_of hr
  exact (ss_cons (ss_if (sp_lt (sx_len rfl (T.free 0 rfl) (sx_var (i := 0) rfl (by first | exact .inl rfl | exact .inr (.inl rfl) | exact .inr (.inr rfl)))) (sx_add sx_int (sx_mul sx_int (sx_var (i := 1) rfl (by first | exact .inl rfl | exact .inr (.inl rfl) | exact .inr (.inr rfl)))))) (ss_one (ss_ret sx_non)) ss_nil)
    (ss_one (ss_ret sx_stuck)))
theorem ok15 (T : Txt K mg ts fr ci cs fdv) (A : Oks P w K mg base tab ts fdv n) : FnOk P w K mg base CX0 (n + 1) (He.ga K "leads") (fdv 15) ["number", "own", "price", "fields"] (spV K (FAof K ts) (call tab (n + 1) 15)) := by
  refine def_ok (Φ := call tab n) (d := d_leads) (T.fn 15 rfl) sc15 rfl rfl fun cdv A0 outer s H E hr => ?_
  have AL := alls_of T A (ball T)
  have hu1 := hu_of hr
  have hu64 := hu64_of hr
  have hu65 := hu65_of hr
  exact (ss_cons (ss_set sc15.nd rfl (by first | exact .inl rfl | exact .inr rfl) (by first | exact .inl rfl | exact .inr rfl) (sx_call (A 14 rfl) hr rfl (T.glo 14 rfl) (T.fn 14 rfl).kp (b14 T) (sg_cons (sx_var (i := 3) rfl (by first | exact .inl rfl | exact .inr (.inl rfl) | exact .inr (.inr rfl))) (sg_cons (sx_var (i := 0) rfl (by first | exact .inl rfl | exact .inr (.inl rfl) | exact .inr (.inr rfl))) sg_nil))))
    (ss_cons (ss_if (PW.pt (sw_or (sp_isN (sx_var (i := 4) rfl (by first | exact .inl rfl | exact .inr (.inl rfl) | exact .inr (.inr rfl)))) (sw_or (sp_ne hu64 (sx_ix hu1 (sx_var (i := 4) rfl (by first | exact .inl rfl | exact .inr (.inl rfl) | exact .inr (.inr rfl))) sx_int) (sx_ix hu1 (sx_var (i := 1) rfl (by first | exact .inl rfl | exact .inr (.inl rfl) | exact .inr (.inr rfl))) sx_int)) (sw_one (sp_ne hu64 (sx_ix hu1 (sx_var (i := 4) rfl (by first | exact .inl rfl | exact .inr (.inl rfl) | exact .inr (.inr rfl))) sx_int) (sx_sub (sx_ix hu1 (sx_var (i := 1) rfl (by first | exact .inl rfl | exact .inr (.inl rfl) | exact .inr (.inr rfl))) sx_int) sx_int)))))) (ss_one (ss_ret sx_bl)) ss_nil)
    (ss_one (ss_ret (sx_and (sx_le (sx_var (i := 2) rfl (by first | exact .inl rfl | exact .inr (.inl rfl) | exact .inr (.inr rfl))) (sx_ix hu1 (sx_var (i := 1) rfl (by first | exact .inl rfl | exact .inr (.inl rfl) | exact .inr (.inr rfl))) sx_int)) (sx_one (sx_le (sx_ix hu1 (sx_var (i := 4) rfl (by first | exact .inl rfl | exact .inr (.inl rfl) | exact .inr (.inr rfl))) sx_int) (sx_ix hu1 (sx_var (i := 1) rfl (by first | exact .inl rfl | exact .inr (.inl rfl) | exact .inr (.inr rfl))) sx_int))))))))
theorem ok16 (T : Txt K mg ts fr ci cs fdv) (A : Oks P w K mg base tab ts fdv n) : FnOk P w K mg base CX0 (n + 1) (He.ga K "is_entry_right") (fdv 16) ["name", "number", "own", "ends"] (spV K (FAof K ts) (call tab (n + 1) 16)) := by
  refine def_ok (Φ := call tab n) (d := d_is_entry_right) (T.fn 16 rfl) sc16 rfl rfl fun cdv A0 outer s H E hr => ?_
  have AL := alls_of T A (ball T)
  have hu1 := hu_of hr
  have hu64 := hu64_of hr
  have hu65 := hu65_of hr
  exact (ss_cons (ss_if (sp_eq hu64 (sx_ix hu1 (sx_var (i := 2) rfl (by first | exact .inl rfl | exact .inr (.inl rfl) | exact .inr (.inr rfl))) sx_int) sx_int) (ss_one (ss_ret (sx_and (sx_eq hu64 (sx_ix hu1 (sx_var (i := 2) rfl (by first | exact .inl rfl | exact .inr (.inl rfl) | exact .inr (.inr rfl))) sx_int) (sx_var (i := 0) rfl (by first | exact .inl rfl | exact .inr (.inl rfl) | exact .inr (.inr rfl)))) (sx_one (sx_eq hu64 (sx_ix hu1 (sx_var (i := 2) rfl (by first | exact .inl rfl | exact .inr (.inl rfl) | exact .inr (.inr rfl))) sx_int) sx_int))))) ss_nil)
    (ss_one (ss_ret (sx_ne hu64 (sx_compN [("end", 4)] rfl (by first | exact .inl rfl | exact .inr (.inl rfl) | exact .inr (.inr rfl)) (by rfl) (fun _ _ _ _ _ => (pg_v (i := 4) sc16.nd rfl (by first | exact .inl rfl | exact .inr rfl) (by first | exact .inl rfl | exact .inr rfl))) (fun _ _ _ _ _ => (pts_if (PW.pt (sw_and (sp_val (sx_ix hu1 (sx_var (i := 4) rfl (by first | exact .inl rfl | exact .inr (.inl rfl) | exact .inr (.inr rfl))) sx_int)) (sw_one (sp_val (sx_call (A 15 rfl) hr rfl (T.glo 15 rfl) (T.fn 15 rfl).kp (b15 T) (sg_cons (sx_var (i := 1) rfl (by first | exact .inl rfl | exact .inr (.inl rfl) | exact .inr (.inr rfl))) (sg_cons (sx_var (i := 2) rfl (by first | exact .inl rfl | exact .inr (.inl rfl) | exact .inr (.inr rfl))) (sg_cons (sx_ix hu1 (sx_var (i := 4) rfl (by first | exact .inl rfl | exact .inr (.inl rfl) | exact .inr (.inr rfl))) sx_int) (sg_cons (sx_ix hu1 (sx_var (i := 4) rfl (by first | exact .inl rfl | exact .inr (.inl rfl) | exact .inr (.inr rfl))) sx_int) sg_nil))))))))))) (fun _ _ _ _ _ => (sx_var (i := 4) rfl (by first | exact .inl rfl | exact .inr (.inl rfl) | exact .inr (.inr rfl)))) sc16.nd) (sx_lst sa_nil)))))
theorem ok17 (T : Txt K mg ts fr ci cs fdv) (A : Oks P w K mg base tab ts fdv n) : FnOk P w K mg base CX0 (n + 1) (He.ga K "is_form") (fdv 17) ["fields"] (spV K (FAof K ts) (call tab (n + 1) 17)) := by
  refine def_ok (Φ := call tab n) (d := d_is_form) (T.fn 17 rfl) sc17 rfl rfl fun cdv A0 outer s H E hr => ?_
  have AL := alls_of T A (ball T)
  have hu1 := hu_of hr
  have hu64 := hu64_of hr
  have hu65 := hu65_of hr
  exact (ss_one (ss_ret (sx_and (sx_eq hu64 (sx_mod (sx_sub (sx_len rfl (T.free 0 rfl) (sx_var (i := 0) rfl (by first | exact .inl rfl | exact .inr (.inl rfl) | exact .inr (.inr rfl)))) sx_int) sx_int) sx_int) (sx_one (sx_le (sx_len rfl (T.free 0 rfl) (sx_var (i := 0) rfl (by first | exact .inl rfl | exact .inr (.inl rfl) | exact .inr (.inr rfl)))) (sx_add sx_int (sx_mul sx_int (sx_gint rfl (T.int 2 rfl)))))))))
theorem ok18 (T : Txt K mg ts fr ci cs fdv) (A : Oks P w K mg base tab ts fdv n) : FnOk P w K mg base CX0 (n + 1) (He.ga K "is_dear") (fdv 18) ["own", "price", "fields"] (spV K (FAof K ts) (call tab (n + 1) 18)) := by
  refine def_ok (Φ := call tab n) (d := d_is_dear) (T.fn 18 rfl) sc18 rfl rfl fun cdv A0 outer s H E hr => ?_
  have AL := alls_of T A (ball T)
  have hu1 := hu_of hr
  have hu64 := hu64_of hr
  have hu65 := hu65_of hr
  exact (ss_cons (ss_range1 rfl (T.free 4 rfl) (sa_cons (sx_gint rfl (T.int 2 rfl)) sa_nil) (pg_v (i := 3) sc18.nd rfl (by first | exact .inl rfl | exact .inr rfl) (by first | exact .inl rfl | exact .inr rfl)) (ss_cons (ss_set sc18.nd rfl (by first | exact .inl rfl | exact .inr rfl) (by first | exact .inl rfl | exact .inr rfl) (sx_call (A 14 rfl) hr rfl (T.glo 14 rfl) (T.fn 14 rfl).kp (b14 T) (sg_cons (sx_var (i := 0) rfl (by first | exact .inl rfl | exact .inr (.inl rfl) | exact .inr (.inr rfl))) (sg_cons (sx_var (i := 3) rfl (by first | exact .inl rfl | exact .inr (.inl rfl) | exact .inr (.inr rfl))) sg_nil))))
    (ss_cons (ss_set sc18.nd rfl (by first | exact .inl rfl | exact .inr rfl) (by first | exact .inl rfl | exact .inr rfl) (sx_call (A 14 rfl) hr rfl (T.glo 14 rfl) (T.fn 14 rfl).kp (b14 T) (sg_cons (sx_var (i := 2) rfl (by first | exact .inl rfl | exact .inr (.inl rfl) | exact .inr (.inr rfl))) (sg_cons (sx_var (i := 3) rfl (by first | exact .inl rfl | exact .inr (.inl rfl) | exact .inr (.inr rfl))) sg_nil))))
    (ss_one (ss_if (PW.pt (sw_and (sp_isNN (sx_var (i := 4) rfl (by first | exact .inl rfl | exact .inr (.inl rfl) | exact .inr (.inr rfl)))) (sw_and (sp_isNN (sx_var (i := 5) rfl (by first | exact .inl rfl | exact .inr (.inl rfl) | exact .inr (.inr rfl)))) (sw_and (sp_eq hu64 (sx_ix hu1 (sx_var (i := 4) rfl (by first | exact .inl rfl | exact .inr (.inl rfl) | exact .inr (.inr rfl))) sx_int) (sx_ix hu1 (sx_var (i := 5) rfl (by first | exact .inl rfl | exact .inr (.inl rfl) | exact .inr (.inr rfl))) sx_int)) (sw_one (sp_ge (sx_var (i := 1) rfl (by first | exact .inl rfl | exact .inr (.inl rfl) | exact .inr (.inr rfl))) (sx_max2 rfl (T.free 2 rfl) (sx_ix hu1 (sx_var (i := 4) rfl (by first | exact .inl rfl | exact .inr (.inl rfl) | exact .inr (.inr rfl))) sx_int) (sx_ix hu1 (sx_var (i := 5) rfl (by first | exact .inl rfl | exact .inr (.inl rfl) | exact .inr (.inr rfl))) sx_int)))))))) (ss_one (ss_ret sx_bl)) ss_nil)))))
    (ss_one (ss_ret sx_bl)))
theorem ok19 (T : Txt K mg ts fr ci cs fdv) (A : Oks P w K mg base tab ts fdv n) : FnOk P w K mg base CX0 (n + 1) (He.ga K "says_cheapest") (fdv 19) ["view"] (spV K (FAof K ts) (call tab (n + 1) 19)) := by
  refine def_ok (Φ := call tab n) (d := d_says_cheapest) (T.fn 19 rfl) sc19 rfl rfl fun cdv A0 outer s H E hr => ?_
  have AL := alls_of T A (ball T)
  have hu1 := hu_of hr
  have hu64 := hu64_of hr
  have hu65 := hu65_of hr
  exact (ss_cons (ss_set sc19.nd rfl (by first | exact .inl rfl | exact .inr rfl) (by first | exact .inl rfl | exact .inr rfl) (sx_call (A 12 rfl) hr rfl (T.glo 12 rfl) (T.fn 12 rfl).kp (b12 T) (sg_cons (sx_var (i := 0) rfl (by first | exact .inl rfl | exact .inr (.inl rfl) | exact .inr (.inr rfl))) (sg_cons sx_int sg_nil))))
    (ss_cons (ss_if (PW.pt (sw_or (sp_isN (sx_var (i := 1) rfl (by first | exact .inl rfl | exact .inr (.inl rfl) | exact .inr (.inr rfl)))) (sw_one (sp_ne hu64 (sx_comp [("fields", 6)] (src_of (sx_cat (sx_lst (sa_cons (sx_ix hu1 (sx_var (i := 1) rfl (by first | exact .inl rfl | exact .inr (.inl rfl) | exact .inr (.inr rfl))) sx_int) sa_nil)) (sx_ix hu1 (sx_var (i := 1) rfl (by first | exact .inl rfl | exact .inr (.inl rfl) | exact .inr (.inr rfl))) sx_int))) (by rfl) (fun _ _ _ _ _ => (pg_v (i := 6) sc19.nd rfl (by first | exact .inl rfl | exact .inr rfl) (by first | exact .inl rfl | exact .inr rfl))) (fun _ _ _ _ _ => (pts_if (sp_not (sp_val (sx_call (A 17 rfl) hr rfl (T.glo 17 rfl) (T.fn 17 rfl).kp (b17 T) (sg_cons (sx_var (i := 6) rfl (by first | exact .inl rfl | exact .inr (.inl rfl) | exact .inr (.inr rfl))) sg_nil)))))) (fun _ _ _ _ _ => (sx_var (i := 6) rfl (by first | exact .inl rfl | exact .inr (.inl rfl) | exact .inr (.inr rfl)))) sc19.nd) (sx_lst sa_nil))))) (ss_one (ss_ret sx_bl)) ss_nil)
    (ss_cons (ss_set sc19.nd rfl (by first | exact .inl rfl | exact .inr rfl) (by first | exact .inl rfl | exact .inr rfl) (sx_ix hu1 (sx_var (i := 1) rfl (by first | exact .inl rfl | exact .inr (.inl rfl) | exact .inr (.inr rfl))) sx_int))
    (ss_cons (ss_setComp [("end", 5), ("fields", 6)] (src_zip rfl (T.free 9 rfl) (sa_cons (sx_ix hu1 (sx_var (i := 0) rfl (by first | exact .inl rfl | exact .inr (.inl rfl) | exact .inr (.inr rfl))) sx_int) (sa_cons (sx_ix hu1 (sx_var (i := 1) rfl (by first | exact .inl rfl | exact .inr (.inl rfl) | exact .inr (.inr rfl))) sx_int) sa_nil))) (by rfl) (fun _ _ _ _ _ => (pg_t rfl (pgs_v (i := 5) sc19.nd rfl (by first | exact .inl rfl | exact .inr rfl) (by first | exact .inl rfl | exact .inr rfl) (pgs_v (i := 6) sc19.nd rfl (by first | exact .inl rfl | exact .inr rfl) (by first | exact .inl rfl | exact .inr rfl) pgs_n)))) (fun _ _ _ _ _ => pts_yes) (fun _ _ _ _ _ => (sx_tup (sa_cons (sx_ix hu1 (sx_var (i := 5) rfl (by first | exact .inl rfl | exact .inr (.inl rfl) | exact .inr (.inr rfl))) sx_int) (sa_cons (sx_ix hu1 (sx_var (i := 5) rfl (by first | exact .inl rfl | exact .inr (.inl rfl) | exact .inr (.inr rfl))) sx_int) (sa_cons (sx_var (i := 6) rfl (by first | exact .inl rfl | exact .inr (.inl rfl) | exact .inr (.inr rfl))) sa_nil))))) sc19.nd rfl rfl (by rfl))
    (ss_cons (ss_if (PW.pt (sw_or (sp_ne hu64 (sx_eq hu64 (sx_ix hu1 (sx_var (i := 2) rfl (by first | exact .inl rfl | exact .inr (.inl rfl) | exact .inr (.inr rfl))) sx_int) sx_int) (sx_eq hu64 (sx_ix hu1 (sx_var (i := 2) rfl (by first | exact .inl rfl | exact .inr (.inl rfl) | exact .inr (.inr rfl))) sx_int) (sx_ix hu1 (sx_var (i := 0) rfl (by first | exact .inl rfl | exact .inr (.inl rfl) | exact .inr (.inr rfl))) sx_int))) (sw_one (sp_ne hu64 (sx_compN [("end", 5)] rfl (by first | exact .inl rfl | exact .inr (.inl rfl) | exact .inr (.inr rfl)) (by rfl) (fun _ _ _ _ _ => (pg_v (i := 5) sc19.nd rfl (by first | exact .inl rfl | exact .inr rfl) (by first | exact .inl rfl | exact .inr rfl))) (fun _ _ _ _ _ => (pts_if (sp_ne hu64 (sx_ix hu1 (sx_ix hu1 (sx_var (i := 5) rfl (by first | exact .inl rfl | exact .inr (.inl rfl) | exact .inr (.inr rfl))) sx_int) sx_int) (sx_ix hu1 (sx_var (i := 2) rfl (by first | exact .inl rfl | exact .inr (.inl rfl) | exact .inr (.inr rfl))) sx_int)))) (fun _ _ _ _ _ => (sx_var (i := 5) rfl (by first | exact .inl rfl | exact .inr (.inl rfl) | exact .inr (.inr rfl)))) sc19.nd) (sx_lst sa_nil))))) (ss_one (ss_ret sx_bl)) ss_nil)
    (ss_cons (ss_if (sp_not (sp_val (sx_call (A 13 rfl) hr rfl (T.glo 13 rfl) (T.fn 13 rfl).kp (b13 T) (sg_cons (sx_ix hu1 (sx_var (i := 2) rfl (by first | exact .inl rfl | exact .inr (.inl rfl) | exact .inr (.inr rfl))) sx_int) (sg_cons (sx_compN [("end", 5)] rfl (by first | exact .inl rfl | exact .inr (.inl rfl) | exact .inr (.inr rfl)) (by rfl) (fun _ _ _ _ _ => (pg_v (i := 5) sc19.nd rfl (by first | exact .inl rfl | exact .inr rfl) (by first | exact .inl rfl | exact .inr rfl))) (fun _ _ _ _ _ => (pts_if (sp_val (sx_ix hu1 (sx_var (i := 5) rfl (by first | exact .inl rfl | exact .inr (.inl rfl) | exact .inr (.inr rfl))) sx_int)))) (fun _ _ _ _ _ => (sx_ix hu1 (sx_ix hu1 (sx_var (i := 5) rfl (by first | exact .inl rfl | exact .inr (.inl rfl) | exact .inr (.inr rfl))) sx_int) sx_int)) sc19.nd) sg_nil))))) (ss_one (ss_ret sx_bl)) ss_nil)
    (ss_cons (ss_range1 rfl (T.free 4 rfl) (sa_cons (sx_fdiv (sx_sub (sx_len rfl (T.free 0 rfl) (sx_var (i := 2) rfl (by first | exact .inl rfl | exact .inr (.inl rfl) | exact .inr (.inr rfl)))) sx_int) sx_int) sa_nil) (pg_v (i := 4) sc19.nd rfl (by first | exact .inl rfl | exact .inr rfl) (by first | exact .inl rfl | exact .inr rfl)) (ss_one (ss_if (sp_not (sp_val (sx_call (A 16 rfl) hr rfl (T.glo 16 rfl) (T.fn 16 rfl).kp (b16 T) (sg_cons (sx_ix hu1 (sx_var (i := 0) rfl (by first | exact .inl rfl | exact .inr (.inl rfl) | exact .inr (.inr rfl))) sx_int) (sg_cons (sx_var (i := 4) rfl (by first | exact .inl rfl | exact .inr (.inl rfl) | exact .inr (.inr rfl))) (sg_cons (sx_call (A 14 rfl) hr rfl (T.glo 14 rfl) (T.fn 14 rfl).kp (b14 T) (sg_cons (sx_var (i := 2) rfl (by first | exact .inl rfl | exact .inr (.inl rfl) | exact .inr (.inr rfl))) (sg_cons (sx_var (i := 4) rfl (by first | exact .inl rfl | exact .inr (.inl rfl) | exact .inr (.inr rfl))) sg_nil))) (sg_cons (sx_var (i := 3) rfl (by first | exact .inl rfl | exact .inr (.inl rfl) | exact .inr (.inr rfl))) sg_nil))))))) (ss_one (ss_ret sx_bl)) ss_nil)))
    (ss_one (ss_ret (sx_eq hu64 (sx_compN [("end", 5)] rfl (by first | exact .inl rfl | exact .inr (.inl rfl) | exact .inr (.inr rfl)) (by rfl) (fun _ _ _ _ _ => (pg_v (i := 5) sc19.nd rfl (by first | exact .inl rfl | exact .inr rfl) (by first | exact .inl rfl | exact .inr rfl))) (fun _ _ _ _ _ => (pts_if (PW.pt (sw_and (sp_not (sp_val (sx_ix hu1 (sx_var (i := 5) rfl (by first | exact .inl rfl | exact .inr (.inl rfl) | exact .inr (.inr rfl))) sx_int))) (sw_one (sp_not (sp_val (sx_call (A 18 rfl) hr rfl (T.glo 18 rfl) (T.fn 18 rfl).kp (b18 T) (sg_cons (sx_var (i := 2) rfl (by first | exact .inl rfl | exact .inr (.inl rfl) | exact .inr (.inr rfl))) (sg_cons (sx_ix hu1 (sx_var (i := 5) rfl (by first | exact .inl rfl | exact .inr (.inl rfl) | exact .inr (.inr rfl))) sx_int) (sg_cons (sx_ix hu1 (sx_var (i := 5) rfl (by first | exact .inl rfl | exact .inr (.inl rfl) | exact .inr (.inr rfl))) sx_int) sg_nil))))))))))) (fun _ _ _ _ _ => (sx_var (i := 5) rfl (by first | exact .inl rfl | exact .inr (.inl rfl) | exact .inr (.inr rfl)))) sc19.nd) (sx_lst sa_nil)))))))))))
theorem ok20 (T : Txt K mg ts fr ci cs fdv) (A : Oks P w K mg base tab ts fdv n) : FnOk P w K mg base CX0 (n + 1) (He.ga K "says_round") (fdv 20) ["view"] (spV K (FAof K ts) (call tab (n + 1) 20)) := by
  refine def_ok (Φ := call tab n) (d := d_says_round) (T.fn 20 rfl) sc20 rfl rfl fun cdv A0 outer s H E hr => ?_
  have AL := alls_of T A (ball T)
  have hu1 := hu_of hr
  have hu64 := hu64_of hr
  have hu65 := hu65_of hr
  exact (ss_cons (ss_set sc20.nd rfl (by first | exact .inl rfl | exact .inr rfl) (by first | exact .inl rfl | exact .inr rfl) (sx_call (A 12 rfl) hr rfl (T.glo 12 rfl) (T.fn 12 rfl).kp (b12 T) (sg_cons (sx_var (i := 0) rfl (by first | exact .inl rfl | exact .inr (.inl rfl) | exact .inr (.inr rfl))) (sg_cons sx_int sg_nil))))
    (ss_cons (ss_if (PW.pt (sw_or (sp_isN (sx_var (i := 1) rfl (by first | exact .inl rfl | exact .inr (.inl rfl) | exact .inr (.inr rfl)))) (sw_one (sp_ne hu64 (sx_comp [("fields", 12)] (src_of (sx_cat (sx_lst (sa_cons (sx_ix hu1 (sx_var (i := 1) rfl (by first | exact .inl rfl | exact .inr (.inl rfl) | exact .inr (.inr rfl))) sx_int) sa_nil)) (sx_ix hu1 (sx_var (i := 1) rfl (by first | exact .inl rfl | exact .inr (.inl rfl) | exact .inr (.inr rfl))) sx_int))) (by rfl) (fun _ _ _ _ _ => (pg_v (i := 12) sc20.nd rfl (by first | exact .inl rfl | exact .inr rfl) (by first | exact .inl rfl | exact .inr rfl))) (fun _ _ _ _ _ => (pts_if (sp_ne hu64 (sx_len rfl (T.free 0 rfl) (sx_var (i := 12) rfl (by first | exact .inl rfl | exact .inr (.inl rfl) | exact .inr (.inr rfl)))) sx_int))) (fun _ _ _ _ _ => (sx_var (i := 12) rfl (by first | exact .inl rfl | exact .inr (.inl rfl) | exact .inr (.inr rfl)))) sc20.nd) (sx_lst sa_nil))))) (ss_one (ss_ret sx_bl)) ss_nil)
    (ss_cons (ss_setT (sx_ix hu1 (sx_var (i := 1) rfl (by first | exact .inl rfl | exact .inr (.inl rfl) | exact .inr (.inr rfl))) sx_int) (pg_t rfl (pgs_v (i := 5) sc20.nd rfl (by first | exact .inl rfl | exact .inr rfl) (by first | exact .inl rfl | exact .inr rfl) (pgs_v (i := 6) sc20.nd rfl (by first | exact .inl rfl | exact .inr rfl) (by first | exact .inl rfl | exact .inr rfl) (pgs_v (i := 7) sc20.nd rfl (by first | exact .inl rfl | exact .inr rfl) (by first | exact .inl rfl | exact .inr rfl) (pgs_v (i := 8) sc20.nd rfl (by first | exact .inl rfl | exact .inr rfl) (by first | exact .inl rfl | exact .inr rfl) (pgs_v (i := 9) sc20.nd rfl (by first | exact .inl rfl | exact .inr rfl) (by first | exact .inl rfl | exact .inr rfl) (pgs_v (i := 10) sc20.nd rfl (by first | exact .inl rfl | exact .inr rfl) (by first | exact .inl rfl | exact .inr rfl) pgs_n))))))))
    (ss_cons (ss_set sc20.nd rfl (by first | exact .inl rfl | exact .inr rfl) (by first | exact .inl rfl | exact .inr rfl) (sx_ix hu1 (sx_var (i := 1) rfl (by first | exact .inl rfl | exact .inr (.inl rfl) | exact .inr (.inr rfl))) sx_int))
    (ss_cons (ss_if (PW.pt (sw_or (sp_ne hu64 (sx_var (i := 5) rfl (by first | exact .inl rfl | exact .inr (.inl rfl) | exact .inr (.inr rfl))) (sx_ix hu1 (sx_var (i := 0) rfl (by first | exact .inl rfl | exact .inr (.inl rfl) | exact .inr (.inr rfl))) sx_int)) (sw_one (sp_ne hu64 (sx_compN [("end", 11)] rfl (by first | exact .inl rfl | exact .inr (.inl rfl) | exact .inr (.inr rfl)) (by rfl) (fun _ _ _ _ _ => (pg_v (i := 11) sc20.nd rfl (by first | exact .inl rfl | exact .inr rfl) (by first | exact .inl rfl | exact .inr rfl))) (fun _ _ _ _ _ => (pts_if (PW.pt (sw_or (sp_ne hu64 (sx_ix hu1 (sx_var (i := 11) rfl (by first | exact .inl rfl | exact .inr (.inl rfl) | exact .inr (.inr rfl))) sx_int) (sx_var (i := 6) rfl (by first | exact .inl rfl | exact .inr (.inl rfl) | exact .inr (.inr rfl)))) (sw_one (sp_ne hu64 (sx_ix hu1 (sx_var (i := 11) rfl (by first | exact .inl rfl | exact .inr (.inl rfl) | exact .inr (.inr rfl))) sx_int) (sx_var (i := 7) rfl (by first | exact .inl rfl | exact .inr (.inl rfl) | exact .inr (.inr rfl))))))))) (fun _ _ _ _ _ => (sx_var (i := 11) rfl (by first | exact .inl rfl | exact .inr (.inl rfl) | exact .inr (.inr rfl)))) sc20.nd) (sx_lst sa_nil))))) (ss_one (ss_ret sx_bl)) ss_nil)
    (ss_cons (ss_if (PW.pt (sw_or (sp_lt (sx_var (i := 7) rfl (by first | exact .inl rfl | exact .inr (.inl rfl) | exact .inr (.inr rfl))) (sx_gint rfl (T.int 3 rfl))) (sw_or (sp_ge (sx_var (i := 8) rfl (by first | exact .inl rfl | exact .inr (.inl rfl) | exact .inr (.inr rfl))) (sx_var (i := 7) rfl (by first | exact .inl rfl | exact .inr (.inl rfl) | exact .inr (.inr rfl)))) (sw_one (sp_ne hu64 (sx_eq hu64 (sx_var (i := 8) rfl (by first | exact .inl rfl | exact .inr (.inl rfl) | exact .inr (.inr rfl))) sx_int) (sx_eq hu64 (sx_var (i := 6) rfl (by first | exact .inl rfl | exact .inr (.inl rfl) | exact .inr (.inr rfl))) (sx_var (i := 5) rfl (by first | exact .inl rfl | exact .inr (.inl rfl) | exact .inr (.inr rfl))))))))) (ss_one (ss_ret sx_bl)) ss_nil)
    (ss_cons (ss_setCompN [("end", 11)] rfl (by first | exact .inl rfl | exact .inr (.inl rfl) | exact .inr (.inr rfl)) (by rfl) (fun _ _ _ _ _ => (pg_v (i := 11) sc20.nd rfl (by first | exact .inl rfl | exact .inr rfl) (by first | exact .inl rfl | exact .inr rfl))) (fun _ _ _ _ _ => (pts_if (PW.pt (sw_and (sp_eq hu64 (sx_ix hu1 (sx_var (i := 11) rfl (by first | exact .inl rfl | exact .inr (.inl rfl) | exact .inr (.inr rfl))) sx_int) (sx_var (i := 9) rfl (by first | exact .inl rfl | exact .inr (.inl rfl) | exact .inr (.inr rfl)))) (sw_and (sp_eq hu64 (sx_ix hu1 (sx_var (i := 11) rfl (by first | exact .inl rfl | exact .inr (.inl rfl) | exact .inr (.inr rfl))) sx_int) (sx_mod (sx_add (sx_var (i := 8) rfl (by first | exact .inl rfl | exact .inr (.inl rfl) | exact .inr (.inr rfl))) sx_int) (sx_var (i := 7) rfl (by first | exact .inl rfl | exact .inr (.inl rfl) | exact .inr (.inr rfl))))) (sw_one (sp_eq hu64 (sx_ix hu1 (sx_var (i := 11) rfl (by first | exact .inl rfl | exact .inr (.inl rfl) | exact .inr (.inr rfl))) sx_int) (sx_var (i := 5) rfl (by first | exact .inl rfl | exact .inr (.inl rfl) | exact .inr (.inr rfl)))))))))) (fun _ _ _ _ _ => (sx_var (i := 11) rfl (by first | exact .inl rfl | exact .inr (.inl rfl) | exact .inr (.inr rfl)))) sc20.nd rfl rfl (by rfl))
    (ss_cons (ss_setCompN [("end", 11)] rfl (by first | exact .inl rfl | exact .inr (.inl rfl) | exact .inr (.inr rfl)) (by rfl) (fun _ _ _ _ _ => (pg_v (i := 11) sc20.nd rfl (by first | exact .inl rfl | exact .inr rfl) (by first | exact .inl rfl | exact .inr rfl))) (fun _ _ _ _ _ => (pts_if (PW.pt (sw_and (sp_eq hu64 (sx_ix hu1 (sx_var (i := 11) rfl (by first | exact .inl rfl | exact .inr (.inl rfl) | exact .inr (.inr rfl))) sx_int) (sx_var (i := 10) rfl (by first | exact .inl rfl | exact .inr (.inl rfl) | exact .inr (.inr rfl)))) (sw_and (sp_eq hu64 (sx_ix hu1 (sx_var (i := 11) rfl (by first | exact .inl rfl | exact .inr (.inl rfl) | exact .inr (.inr rfl))) sx_int) (sx_mod (sx_sub (sx_var (i := 8) rfl (by first | exact .inl rfl | exact .inr (.inl rfl) | exact .inr (.inr rfl))) sx_int) (sx_var (i := 7) rfl (by first | exact .inl rfl | exact .inr (.inl rfl) | exact .inr (.inr rfl))))) (sw_one (sp_eq hu64 (sx_ix hu1 (sx_var (i := 11) rfl (by first | exact .inl rfl | exact .inr (.inl rfl) | exact .inr (.inr rfl))) sx_int) (sx_var (i := 5) rfl (by first | exact .inl rfl | exact .inr (.inl rfl) | exact .inr (.inr rfl)))))))))) (fun _ _ _ _ _ => (sx_var (i := 11) rfl (by first | exact .inl rfl | exact .inr (.inl rfl) | exact .inr (.inr rfl)))) sc20.nd rfl rfl (by rfl))
    (ss_one (ss_ret (sx_and (sx_ne hu64 (sx_var (i := 3) rfl (by first | exact .inl rfl | exact .inr (.inl rfl) | exact .inr (.inr rfl))) (sx_lst sa_nil)) (sx_one (sx_ne hu64 (sx_var (i := 4) rfl (by first | exact .inl rfl | exact .inr (.inl rfl) | exact .inr (.inr rfl))) (sx_lst sa_nil))))))))))))))
theorem ok21 (T : Txt K mg ts fr ci cs fdv) (A : Oks P w K mg base tab ts fdv n) : FnOk P w K mg base CX0 (n + 1) (He.ga K "threes_of") (fdv 21) ["fields"] (spV K (FAof K ts) (call tab (n + 1) 21)) := by
  refine def_ok (Φ := call tab n) (d := d_threes_of) (T.fn 21 rfl) sc21 rfl rfl fun cdv A0 outer s H E hr => ?_
  have AL := alls_of T A (ball T)
  have hu1 := hu_of hr
  have hu64 := hu64_of hr
  have hu65 := hu65_of hr
  exact (ss_one (ss_ret (sx_comp [("at", 1)] (src_r3 rfl (T.free 4 rfl) (sa_cons (sx_gint rfl (T.int 4 rfl)) (sa_cons (sx_len rfl (T.free 0 rfl) (sx_var (i := 0) rfl (by first | exact .inl rfl | exact .inr (.inl rfl) | exact .inr (.inr rfl)))) (sa_cons sx_int sa_nil)))) (by rfl) (fun _ _ _ _ _ => (pg_v (i := 1) sc21.nd rfl (by first | exact .inl rfl | exact .inr rfl) (by first | exact .inl rfl | exact .inr rfl))) (fun _ _ _ _ _ => pts_yes) (fun _ _ _ _ _ => sx_stuck) sc21.nd)))
theorem ok22 (T : Txt K mg ts fr ci cs fdv) (A : Oks P w K mg base tab ts fdv n) : FnOk P w K mg base CX0 (n + 1) (He.ga K "below") (fdv 22) ["name", "own", "ends"] (spV K (FAof K ts) (call tab (n + 1) 22)) := by
  refine def_ok (Φ := call tab n) (d := d_below) (T.fn 22 rfl) sc22 rfl rfl fun cdv A0 outer s H E hr => ?_
  have AL := alls_of T A (ball T)
  have hu1 := hu_of hr
  have hu64 := hu64_of hr
  have hu65 := hu65_of hr
  exact (ss_one (ss_ret (sx_compN [("end", 3)] rfl (by first | exact .inl rfl | exact .inr (.inl rfl) | exact .inr (.inr rfl)) (by rfl) (fun _ _ _ _ _ => (pg_v (i := 3) sc22.nd rfl (by first | exact .inl rfl | exact .inr rfl) (by first | exact .inl rfl | exact .inr rfl))) (fun _ _ _ _ _ => (pts_if (PW.pt (sw_and (sp_eq hu64 (sx_ix hu1 (sx_var (i := 3) rfl (by first | exact .inl rfl | exact .inr (.inl rfl) | exact .inr (.inr rfl))) sx_int) (sx_var (i := 0) rfl (by first | exact .inl rfl | exact .inr (.inl rfl) | exact .inr (.inr rfl)))) (sw_one (sp_eq hu64 (sx_ix hu1 (sx_var (i := 3) rfl (by first | exact .inl rfl | exact .inr (.inl rfl) | exact .inr (.inr rfl))) sx_int) (sx_add (sx_ix hu1 (sx_var (i := 1) rfl (by first | exact .inl rfl | exact .inr (.inl rfl) | exact .inr (.inr rfl))) sx_int) sx_int))))))) (fun _ _ _ _ _ => (sx_var (i := 3) rfl (by first | exact .inl rfl | exact .inr (.inl rfl) | exact .inr (.inr rfl)))) sc22.nd)))
theorem ok23 (T : Txt K mg ts fr ci cs fdv) (A : Oks P w K mg base tab ts fdv n) : FnOk P w K mg base CX0 (n + 1) (He.ga K "leaders_among") (fdv 23) ["name", "threes"] (spV K (FAof K ts) (call tab (n + 1) 23)) := by
  refine def_ok (Φ := call tab n) (d := d_leaders_among) (T.fn 23 rfl) sc23 rfl rfl fun cdv A0 outer s H E hr => ?_
  have AL := alls_of T A (ball T)
  have hu1 := hu_of hr
  have hu64 := hu64_of hr
  have hu65 := hu65_of hr
  exact (ss_cons (ss_if (sp_eq hu64 (sx_var (i := 1) rfl (by first | exact .inl rfl | exact .inr (.inl rfl) | exact .inr (.inr rfl))) (sx_lst sa_nil)) (ss_one (ss_ret sx_int)) ss_nil)
    (ss_one (ss_ret (sx_len rfl (T.free 0 rfl) (sx_compN [("three", 2)] rfl (by first | exact .inl rfl | exact .inr (.inl rfl) | exact .inr (.inr rfl)) (by rfl) (fun _ _ _ _ _ => (pg_v (i := 2) sc23.nd rfl (by first | exact .inl rfl | exact .inr rfl) (by first | exact .inl rfl | exact .inr rfl))) (fun _ _ _ _ _ => (pts_if (sp_eq hu64 (sx_sl (sx_var (i := 2) rfl (by first | exact .inl rfl | exact .inr (.inl rfl) | exact .inr (.inr rfl))) (so_some sx_int) so_none) (sx_tup (sa_cons (sx_var (i := 0) rfl (by first | exact .inl rfl | exact .inr (.inl rfl) | exact .inr (.inr rfl))) (sa_cons (sx_ix hu1 (sx_var (i := 2) rfl (by first | exact .inl rfl | exact .inr (.inl rfl) | exact .inr (.inr rfl))) sx_int) sa_nil)))))) (fun _ _ _ _ _ => (sx_var (i := 2) rfl (by first | exact .inl rfl | exact .inr (.inl rfl) | exact .inr (.inr rfl)))) sc23.nd)))))
theorem ok24 (T : Txt K mg ts fr ci cs fdv) (A : Oks P w K mg base tab ts fdv n) : FnOk P w K mg base CX0 (n + 1) (He.ga K "goes_up") (fdv 24) ["name", "own", "ends"] (spV K (FAof K ts) (call tab (n + 1) 24)) := by
  refine def_ok (Φ := call tab n) (d := d_goes_up) (T.fn 24 rfl) sc24 rfl rfl fun cdv A0 outer s H E hr => ?_
  have AL := alls_of T A (ball T)
  have hu1 := hu_of hr
  have hu64 := hu64_of hr
  have hu65 := hu65_of hr
  exact (ss_cons (ss_if (PW.pt (sw_or (sp_ne hu64 (sx_ix hu1 (sx_var (i := 1) rfl (by first | exact .inl rfl | exact .inr (.inl rfl) | exact .inr (.inr rfl))) sx_int) (sx_var (i := 0) rfl (by first | exact .inl rfl | exact .inr (.inl rfl) | exact .inr (.inr rfl)))) (sw_one (sp_ne hu64 (sx_compN [("end", 3)] rfl (by first | exact .inl rfl | exact .inr (.inl rfl) | exact .inr (.inr rfl)) (by rfl) (fun _ _ _ _ _ => (pg_v (i := 3) sc24.nd rfl (by first | exact .inl rfl | exact .inr rfl) (by first | exact .inl rfl | exact .inr rfl))) (fun _ _ _ _ _ => (pts_if (sp_ne hu64 (sx_ix hu1 (sx_var (i := 3) rfl (by first | exact .inl rfl | exact .inr (.inl rfl) | exact .inr (.inr rfl))) sx_int) (sx_ix hu1 (sx_var (i := 1) rfl (by first | exact .inl rfl | exact .inr (.inl rfl) | exact .inr (.inr rfl))) sx_int)))) (fun _ _ _ _ _ => (sx_var (i := 3) rfl (by first | exact .inl rfl | exact .inr (.inl rfl) | exact .inr (.inr rfl)))) sc24.nd) (sx_lst sa_nil))))) (ss_one (ss_ret sx_bl)) ss_nil)
    (ss_cons (ss_if (sp_eq hu64 (sx_ix hu1 (sx_var (i := 1) rfl (by first | exact .inl rfl | exact .inr (.inl rfl) | exact .inr (.inr rfl))) sx_int) (sx_var (i := 0) rfl (by first | exact .inl rfl | exact .inr (.inl rfl) | exact .inr (.inr rfl)))) (ss_one (ss_ret (sx_and (sx_eq hu64 (sx_ix hu1 (sx_var (i := 1) rfl (by first | exact .inl rfl | exact .inr (.inl rfl) | exact .inr (.inr rfl))) sx_int) sx_int) (sx_one (sx_eq hu64 (sx_ix hu1 (sx_var (i := 1) rfl (by first | exact .inl rfl | exact .inr (.inl rfl) | exact .inr (.inr rfl))) sx_int) (sx_var (i := 0) rfl (by first | exact .inl rfl | exact .inr (.inl rfl) | exact .inr (.inr rfl)))))))) ss_nil)
    (ss_one (ss_ret (sx_and (sx_gt (sx_ix hu1 (sx_var (i := 1) rfl (by first | exact .inl rfl | exact .inr (.inl rfl) | exact .inr (.inr rfl))) sx_int) sx_int) (sx_one (sx_ne hu64 (sx_compN [("end", 3)] rfl (by first | exact .inl rfl | exact .inr (.inl rfl) | exact .inr (.inr rfl)) (by rfl) (fun _ _ _ _ _ => (pg_v (i := 3) sc24.nd rfl (by first | exact .inl rfl | exact .inr rfl) (by first | exact .inl rfl | exact .inr rfl))) (fun _ _ _ _ _ => (pts_if (PW.pt (sw_and (sp_eq hu64 (sx_ix hu1 (sx_var (i := 3) rfl (by first | exact .inl rfl | exact .inr (.inl rfl) | exact .inr (.inr rfl))) sx_int) (sx_ix hu1 (sx_var (i := 1) rfl (by first | exact .inl rfl | exact .inr (.inl rfl) | exact .inr (.inr rfl))) sx_int)) (sw_one (sp_eq hu64 (sx_ix hu1 (sx_var (i := 3) rfl (by first | exact .inl rfl | exact .inr (.inl rfl) | exact .inr (.inr rfl))) sx_int) (sx_sub (sx_ix hu1 (sx_var (i := 1) rfl (by first | exact .inl rfl | exact .inr (.inl rfl) | exact .inr (.inr rfl))) sx_int) sx_int))))))) (fun _ _ _ _ _ => (sx_var (i := 3) rfl (by first | exact .inl rfl | exact .inr (.inl rfl) | exact .inr (.inr rfl)))) sc24.nd) (sx_lst sa_nil))))))))
theorem ok25 (T : Txt K mg ts fr ci cs fdv) (A : Oks P w K mg base tab ts fdv n) : FnOk P w K mg base CX0 (n + 1) (He.ga K "are_threes_right") (fdv 25) ["name", "threes", "ends"] (spV K (FAof K ts) (call tab (n + 1) 25)) := by
  refine def_ok (Φ := call tab n) (d := d_are_threes_right) (T.fn 25 rfl) sc25 rfl rfl fun cdv A0 outer s H E hr => ?_
  have AL := alls_of T A (ball T)
  have hu1 := hu_of hr
  have hu64 := hu64_of hr
  have hu65 := hu65_of hr
  exact (ss_cons (ss_if (PW.pt (sw_or (sp_ne hu64 (sx_compN [("three", 6)] rfl (by first | exact .inl rfl | exact .inr (.inl rfl) | exact .inr (.inr rfl)) (by rfl) (fun _ _ _ _ _ => (pg_v (i := 6) sc25.nd rfl (by first | exact .inl rfl | exact .inr rfl) (by first | exact .inl rfl | exact .inr rfl))) (fun _ _ _ _ _ => pts_yes) (fun _ _ _ _ _ => (sx_ix hu1 (sx_var (i := 6) rfl (by first | exact .inl rfl | exact .inr (.inl rfl) | exact .inr (.inr rfl))) sx_int)) sc25.nd) (sx_compN [("end", 4)] rfl (by first | exact .inl rfl | exact .inr (.inl rfl) | exact .inr (.inr rfl)) (by rfl) (fun _ _ _ _ _ => (pg_v (i := 4) sc25.nd rfl (by first | exact .inl rfl | exact .inr rfl) (by first | exact .inl rfl | exact .inr rfl))) (fun _ _ _ _ _ => pts_yes) (fun _ _ _ _ _ => (sx_ix hu1 (sx_var (i := 4) rfl (by first | exact .inl rfl | exact .inr (.inl rfl) | exact .inr (.inr rfl))) sx_int)) sc25.nd)) (sw_one (sp_lt (sx_len rfl (T.free 0 rfl) sx_stuck) (sx_len rfl (T.free 0 rfl) (sx_var (i := 2) rfl (by first | exact .inl rfl | exact .inr (.inl rfl) | exact .inr (.inr rfl)))))))) (ss_one (ss_ret sx_bl)) ss_nil)
    (ss_cons (ss_enum rfl (T.free 11 rfl) (sx_var (i := 2) rfl (by first | exact .inl rfl | exact .inr (.inl rfl) | exact .inr (.inr rfl))) (pg_t rfl (pgs_v (i := 3) sc25.nd rfl (by first | exact .inl rfl | exact .inr rfl) (by first | exact .inl rfl | exact .inr rfl) (pgs_v (i := 4) sc25.nd rfl (by first | exact .inl rfl | exact .inr rfl) (by first | exact .inl rfl | exact .inr rfl) pgs_n))) (ss_cons (ss_setComp [("three", 6)] (src_of (sx_call (A 21 rfl) hr rfl (T.glo 21 rfl) (T.fn 21 rfl).kp (b21 T) (sg_cons (sx_var (i := 4) rfl (by first | exact .inl rfl | exact .inr (.inl rfl) | exact .inr (.inr rfl))) sg_nil))) (by rfl) (fun _ _ _ _ _ => (pg_v (i := 6) sc25.nd rfl (by first | exact .inl rfl | exact .inr rfl) (by first | exact .inl rfl | exact .inr rfl))) (fun _ _ _ _ _ => (pts_if (sp_eq hu64 (sx_ix hu1 (sx_var (i := 6) rfl (by first | exact .inl rfl | exact .inr (.inl rfl) | exact .inr (.inr rfl))) sx_int) (sx_var (i := 0) rfl (by first | exact .inl rfl | exact .inr (.inl rfl) | exact .inr (.inr rfl)))))) (fun _ _ _ _ _ => (sx_var (i := 6) rfl (by first | exact .inl rfl | exact .inr (.inl rfl) | exact .inr (.inr rfl)))) sc25.nd rfl rfl (by rfl))
    (ss_one (ss_if (PW.pt (sw_or (sp_ne hu64 (sx_len rfl (T.free 0 rfl) (sx_var (i := 5) rfl (by first | exact .inl rfl | exact .inr (.inl rfl) | exact .inr (.inr rfl)))) sx_int) (sw_one (sp_ne hu64 (sx_sl (sx_ix hu1 (sx_var (i := 5) rfl (by first | exact .inl rfl | exact .inr (.inl rfl) | exact .inr (.inr rfl))) sx_int) (so_some sx_int) so_none) (sx_sl (sx_ix hu1 (sx_var (i := 1) rfl (by first | exact .inl rfl | exact .inr (.inl rfl) | exact .inr (.inr rfl))) (sx_mod (sx_add (sx_var (i := 3) rfl (by first | exact .inl rfl | exact .inr (.inl rfl) | exact .inr (.inr rfl))) sx_int) (sx_len rfl (T.free 0 rfl) (sx_var (i := 1) rfl (by first | exact .inl rfl | exact .inr (.inl rfl) | exact .inr (.inr rfl)))))) (so_some sx_int) so_none))))) (ss_one (ss_ret sx_bl)) ss_nil))))
    (ss_one (ss_ret sx_bl))))
theorem ok26 (T : Txt K mg ts fr ci cs fdv) (A : Oks P w K mg base tab ts fdv n) : FnOk P w K mg base CX0 (n + 1) (He.ga K "says_ball") (fdv 26) ["view"] (spV K (FAof K ts) (call tab (n + 1) 26)) := by
  refine def_ok (Φ := call tab n) (d := d_says_ball) (T.fn 26 rfl) sc26 rfl rfl fun cdv A0 outer s H E hr => ?_
  have AL := alls_of T A (ball T)
  have hu1 := hu_of hr
  have hu64 := hu64_of hr
  have hu65 := hu65_of hr
  exact (ss_cons (ss_set sc26.nd rfl (by first | exact .inl rfl | exact .inr rfl) (by first | exact .inl rfl | exact .inr rfl) (sx_call (A 12 rfl) hr rfl (T.glo 12 rfl) (T.fn 12 rfl).kp (b12 T) (sg_cons (sx_var (i := 0) rfl (by first | exact .inl rfl | exact .inr (.inl rfl) | exact .inr (.inr rfl))) (sg_cons (sx_gint rfl (T.int 4 rfl)) sg_nil))))
    (ss_cons (ss_if (PW.pt (sw_or (sp_isN (sx_var (i := 1) rfl (by first | exact .inl rfl | exact .inr (.inl rfl) | exact .inr (.inr rfl)))) (sw_one (sp_ne hu64 (sx_comp [("fields", 9)] (src_of (sx_cat (sx_lst (sa_cons (sx_ix hu1 (sx_var (i := 1) rfl (by first | exact .inl rfl | exact .inr (.inl rfl) | exact .inr (.inr rfl))) sx_int) sa_nil)) (sx_ix hu1 (sx_var (i := 1) rfl (by first | exact .inl rfl | exact .inr (.inl rfl) | exact .inr (.inr rfl))) sx_int))) (by rfl) (fun _ _ _ _ _ => (pg_v (i := 9) sc26.nd rfl (by first | exact .inl rfl | exact .inr rfl) (by first | exact .inl rfl | exact .inr rfl))) (fun _ _ _ _ _ => (pts_if (sp_ne hu64 (sx_mod (sx_sub (sx_len rfl (T.free 0 rfl) (sx_var (i := 9) rfl (by first | exact .inl rfl | exact .inr (.inl rfl) | exact .inr (.inr rfl)))) (sx_gint rfl (T.int 4 rfl))) sx_int) sx_int))) (fun _ _ _ _ _ => (sx_var (i := 9) rfl (by first | exact .inl rfl | exact .inr (.inl rfl) | exact .inr (.inr rfl)))) sc26.nd) (sx_lst sa_nil))))) (ss_one (ss_ret sx_bl)) ss_nil)
    (ss_cons (ss_set sc26.nd rfl (by first | exact .inl rfl | exact .inr rfl) (by first | exact .inl rfl | exact .inr rfl) (sx_ix hu1 (sx_var (i := 0) rfl (by first | exact .inl rfl | exact .inr (.inl rfl) | exact .inr (.inr rfl))) sx_int))
    (ss_cons (ss_setT (sx_var (i := 1) rfl (by first | exact .inl rfl | exact .inr (.inl rfl) | exact .inr (.inr rfl))) (pg_t rfl (pgs_v (i := 7) sc26.nd rfl (by first | exact .inl rfl | exact .inr rfl) (by first | exact .inl rfl | exact .inr rfl) (pgs_v (i := 8) sc26.nd rfl (by first | exact .inl rfl | exact .inr rfl) (by first | exact .inl rfl | exact .inr rfl) pgs_n))))
    (ss_cons (ss_set sc26.nd rfl (by first | exact .inl rfl | exact .inr rfl) (by first | exact .inl rfl | exact .inr rfl) (sx_call (A 21 rfl) hr rfl (T.glo 21 rfl) (T.fn 21 rfl).kp (b21 T) (sg_cons (sx_var (i := 7) rfl (by first | exact .inl rfl | exact .inr (.inl rfl) | exact .inr (.inr rfl))) sg_nil)))
    (ss_cons (ss_if (PW.pt (sw_or (sp_ne hu64 (sx_len rfl (T.free 0 rfl) (sx_var (i := 3) rfl (by first | exact .inl rfl | exact .inr (.inl rfl) | exact .inr (.inr rfl)))) (sx_len rfl (T.free 0 rfl) (sx_var (i := 8) rfl (by first | exact .inl rfl | exact .inr (.inl rfl) | exact .inr (.inr rfl))))) (sw_or (sp_not (sp_val (sx_call (A 24 rfl) hr rfl (T.glo 24 rfl) (T.fn 24 rfl).kp (b24 T) (sg_cons (sx_var (i := 2) rfl (by first | exact .inl rfl | exact .inr (.inl rfl) | exact .inr (.inr rfl))) (sg_cons (sx_var (i := 7) rfl (by first | exact .inl rfl | exact .inr (.inl rfl) | exact .inr (.inr rfl))) (sg_cons (sx_var (i := 8) rfl (by first | exact .inl rfl | exact .inr (.inl rfl) | exact .inr (.inr rfl))) sg_nil)))))) (sw_one (sp_not (sp_val (sx_call (A 25 rfl) hr rfl (T.glo 25 rfl) (T.fn 25 rfl).kp (b25 T) (sg_cons (sx_var (i := 2) rfl (by first | exact .inl rfl | exact .inr (.inl rfl) | exact .inr (.inr rfl))) (sg_cons (sx_var (i := 3) rfl (by first | exact .inl rfl | exact .inr (.inl rfl) | exact .inr (.inr rfl))) (sg_cons (sx_var (i := 8) rfl (by first | exact .inl rfl | exact .inr (.inl rfl) | exact .inr (.inr rfl))) sg_nil)))))))))) (ss_one (ss_ret sx_bl)) ss_nil)
    (ss_cons (ss_set sc26.nd rfl (by first | exact .inl rfl | exact .inr rfl) (by first | exact .inl rfl | exact .inr rfl) (sx_call (A 22 rfl) hr rfl (T.glo 22 rfl) (T.fn 22 rfl).kp (b22 T) (sg_cons (sx_var (i := 2) rfl (by first | exact .inl rfl | exact .inr (.inl rfl) | exact .inr (.inr rfl))) (sg_cons (sx_var (i := 7) rfl (by first | exact .inl rfl | exact .inr (.inl rfl) | exact .inr (.inr rfl))) (sg_cons (sx_var (i := 8) rfl (by first | exact .inl rfl | exact .inr (.inl rfl) | exact .inr (.inr rfl))) sg_nil)))))
    (ss_cons (ss_set sc26.nd rfl (by first | exact .inl rfl | exact .inr rfl) (by first | exact .inl rfl | exact .inr rfl) (sx_lst (sa_cons sx_int (sa_cons (sx_len rfl (T.free 0 rfl) (sx_var (i := 8) rfl (by first | exact .inl rfl | exact .inr (.inl rfl) | exact .inr (.inr rfl)))) (sa_cons (sx_call (A 23 rfl) hr rfl (T.glo 23 rfl) (T.fn 23 rfl).kp (b23 T) (sg_cons (sx_var (i := 2) rfl (by first | exact .inl rfl | exact .inr (.inl rfl) | exact .inr (.inr rfl))) (sg_cons (sx_var (i := 3) rfl (by first | exact .inl rfl | exact .inr (.inl rfl) | exact .inr (.inr rfl))) sg_nil))) sa_nil)))))
    (ss_cons (ss_range1 rfl (T.free 4 rfl) (sa_cons sx_int sa_nil) (pg_v (i := 6) sc26.nd rfl (by first | exact .inl rfl | exact .inr rfl) (by first | exact .inl rfl | exact .inr rfl)) (ss_one (ss_if (sp_ne hu64 (sx_ix hu1 (sx_var (i := 7) rfl (by first | exact .inl rfl | exact .inr (.inl rfl) | exact .inr (.inr rfl))) (sx_add sx_int (sx_var (i := 6) rfl (by first | exact .inl rfl | exact .inr (.inl rfl) | exact .inr (.inr rfl))))) (sx_add (sx_ix hu1 (sx_var (i := 5) rfl (by first | exact .inl rfl | exact .inr (.inl rfl) | exact .inr (.inr rfl))) (sx_var (i := 6) rfl (by first | exact .inl rfl | exact .inr (.inl rfl) | exact .inr (.inr rfl)))) (sx_sum rfl (T.free 12 rfl) (sx_compN [("end", 10)] rfl (by first | exact .inl rfl | exact .inr (.inl rfl) | exact .inr (.inr rfl)) (by rfl) (fun _ _ _ _ _ => (pg_v (i := 10) sc26.nd rfl (by first | exact .inl rfl | exact .inr rfl) (by first | exact .inl rfl | exact .inr rfl))) (fun _ _ _ _ _ => pts_yes) (fun _ _ _ _ _ => (sx_ix hu1 (sx_var (i := 10) rfl (by first | exact .inl rfl | exact .inr (.inl rfl) | exact .inr (.inr rfl))) (sx_add sx_int (sx_var (i := 6) rfl (by first | exact .inl rfl | exact .inr (.inl rfl) | exact .inr (.inr rfl)))))) sc26.nd)))) (ss_one (ss_ret sx_bl)) ss_nil)))
    (ss_one (ss_ret (sx_or (sx_ne hu64 (sx_ix hu1 (sx_var (i := 7) rfl (by first | exact .inl rfl | exact .inr (.inl rfl) | exact .inr (.inr rfl))) sx_int) (sx_var (i := 2) rfl (by first | exact .inl rfl | exact .inr (.inl rfl) | exact .inr (.inr rfl)))) (sx_one (sx_eq hu64 (sx_add (sx_mul sx_int (sx_ix hu1 (sx_var (i := 7) rfl (by first | exact .inl rfl | exact .inr (.inl rfl) | exact .inr (.inr rfl))) sx_int)) (sx_mul sx_int (sx_ix hu1 (sx_var (i := 7) rfl (by first | exact .inl rfl | exact .inr (.inl rfl) | exact .inr (.inr rfl))) sx_int))) (sx_add (sx_ix hu1 (sx_var (i := 7) rfl (by first | exact .inl rfl | exact .inr (.inl rfl) | exact .inr (.inr rfl))) sx_int) sx_int)))))))))))))))
theorem ok27 (T : Txt K mg ts fr ci cs fdv) (A : Oks P w K mg base tab ts fdv n) : FnOk P w K mg base CX0 (n + 1) (He.ga K "pair_of") (fdv 27) ["mark"] (spV K (FAof K ts) (call tab (n + 1) 27)) := by
  refine def_ok (Φ := call tab n) (d := d_pair_of) (T.fn 27 rfl) sc27 rfl rfl fun cdv A0 outer s H E hr => ?_
  have AL := alls_of T A (ball T)
  have hu1 := hu_of hr
  have hu64 := hu64_of hr
  have hu65 := hu65_of hr
  exact (ss_cons (ss_set sc27.nd rfl (by first | exact .inl rfl | exact .inr rfl) (by first | exact .inl rfl | exact .inr rfl) (sx_call (A 11 rfl) hr rfl (T.glo 11 rfl) (T.fn 11 rfl).kp (b11 T) (sg_cons (sx_var (i := 0) rfl (by first | exact .inl rfl | exact .inr (.inl rfl) | exact .inr (.inr rfl))) sg_nil)))
    (ss_cons (ss_if (PW.pt (sw_or (sp_isN (sx_var (i := 1) rfl (by first | exact .inl rfl | exact .inr (.inl rfl) | exact .inr (.inr rfl)))) (sw_one (sp_ne hu64 (sx_len rfl (T.free 0 rfl) (sx_var (i := 1) rfl (by first | exact .inl rfl | exact .inr (.inl rfl) | exact .inr (.inr rfl)))) sx_int)))) (ss_one (ss_ret sx_non)) ss_nil)
    (ss_one (ss_ret (sx_tup (sa_cons (sx_ix hu1 (sx_var (i := 1) rfl (by first | exact .inl rfl | exact .inr (.inl rfl) | exact .inr (.inr rfl))) sx_int) (sa_cons (sx_ix hu1 (sx_var (i := 1) rfl (by first | exact .inl rfl | exact .inr (.inl rfl) | exact .inr (.inr rfl))) sx_int) sa_nil)))))))
theorem ok28 (T : Txt K mg ts fr ci cs fdv) (A : Oks P w K mg base tab ts fdv n) : FnOk P w K mg base CX0 (n + 1) (He.ga K "pairs_of") (fdv 28) ["view"] (spV K (FAof K ts) (call tab (n + 1) 28)) := by
  refine def_ok (Φ := call tab n) (d := d_pairs_of) (T.fn 28 rfl) sc28 rfl rfl fun cdv A0 outer s H E hr => ?_
  have AL := alls_of T A (ball T)
  have hu1 := hu_of hr
  have hu64 := hu64_of hr
  have hu65 := hu65_of hr
  exact (ss_cons (ss_set sc28.nd rfl (by first | exact .inl rfl | exact .inr rfl) (by first | exact .inl rfl | exact .inr rfl) (sx_call (A 27 rfl) hr rfl (T.glo 27 rfl) (T.fn 27 rfl).kp (b27 T) (sg_cons (sx_ix hu1 (sx_var (i := 0) rfl (by first | exact .inl rfl | exact .inr (.inl rfl) | exact .inr (.inr rfl))) sx_int) sg_nil)))
    (ss_cons (ss_if (sp_isN (sx_var (i := 1) rfl (by first | exact .inl rfl | exact .inr (.inl rfl) | exact .inr (.inr rfl)))) (ss_one (ss_ret sx_non)) ss_nil)
    (ss_cons (ss_set sc28.nd rfl (by first | exact .inl rfl | exact .inr rfl) (by first | exact .inl rfl | exact .inr rfl) (sx_lst sa_nil))
    (ss_cons (ss_for (sx_ix hu1 (sx_var (i := 0) rfl (by first | exact .inl rfl | exact .inr (.inl rfl) | exact .inr (.inr rfl))) sx_int) (pg_t rfl (pgs_v (i := 3) sc28.nd rfl (by first | exact .inl rfl | exact .inr rfl) (by first | exact .inl rfl | exact .inr rfl) (pgs_v (i := 4) sc28.nd rfl (by first | exact .inl rfl | exact .inr rfl) (by first | exact .inl rfl | exact .inr rfl) (pgs_v (i := 5) sc28.nd rfl (by first | exact .inl rfl | exact .inr rfl) (by first | exact .inl rfl | exact .inr rfl) pgs_n)))) (ss_cons (ss_set sc28.nd rfl (by first | exact .inl rfl | exact .inr rfl) (by first | exact .inl rfl | exact .inr rfl) (sx_call (A 27 rfl) hr rfl (T.glo 27 rfl) (T.fn 27 rfl).kp (b27 T) (sg_cons (sx_var (i := 5) rfl (by first | exact .inl rfl | exact .inr (.inl rfl) | exact .inr (.inr rfl))) sg_nil)))
    (ss_cons (ss_if (PW.pt (sw_or (sp_isN (sx_var (i := 6) rfl (by first | exact .inl rfl | exact .inr (.inl rfl) | exact .inr (.inr rfl)))) (sw_one (sp_ne hu64 (sx_ix hu1 (sx_var (i := 6) rfl (by first | exact .inl rfl | exact .inr (.inl rfl) | exact .inr (.inr rfl))) sx_int) (sx_ix hu1 (sx_var (i := 1) rfl (by first | exact .inl rfl | exact .inr (.inl rfl) | exact .inr (.inr rfl))) sx_int))))) (ss_one (ss_ret sx_non)) ss_nil)
    (ss_one (ss_expr (sx_append (i := 2) rfl (by first | exact .inl rfl | exact .inr (.inl rfl) | exact .inr (.inr rfl)) (sa_cons (sx_tup (sa_cons (sx_var (i := 3) rfl (by first | exact .inl rfl | exact .inr (.inl rfl) | exact .inr (.inr rfl))) (sa_cons (sx_var (i := 4) rfl (by first | exact .inl rfl | exact .inr (.inl rfl) | exact .inr (.inr rfl))) (sa_cons (sx_ix hu1 (sx_var (i := 6) rfl (by first | exact .inl rfl | exact .inr (.inl rfl) | exact .inr (.inr rfl))) sx_int) sa_nil)))) sa_nil)))))))
    (ss_one (ss_ret (sx_tup (sa_cons (sx_ix hu1 (sx_var (i := 1) rfl (by first | exact .inl rfl | exact .inr (.inl rfl) | exact .inr (.inr rfl))) sx_int) (sa_cons (sx_ix hu1 (sx_var (i := 1) rfl (by first | exact .inl rfl | exact .inr (.inl rfl) | exact .inr (.inr rfl))) sx_int) (sa_cons (sx_var (i := 2) rfl (by first | exact .inl rfl | exact .inr (.inl rfl) | exact .inr (.inr rfl))) sa_nil))))))))))
theorem ok29 (T : Txt K mg ts fr ci cs fdv) (A : Oks P w K mg base tab ts fdv n) : FnOk P w K mg base CX0 (n + 1) (He.ga K "says_tree_by") (fdv 29) ["name", "pairs"] (spV K (FAof K ts) (call tab (n + 1) 29)) := by
  refine def_ok (Φ := call tab n) (d := d_says_tree_by) (T.fn 29 rfl) sc29 rfl rfl fun cdv A0 outer s H E hr => ?_
  have AL := alls_of T A (ball T)
  have hu1 := hu_of hr
  have hu64 := hu64_of hr
  have hu65 := hu65_of hr
  exact (ss_cons (ss_setT (sx_var (i := 1) rfl (by first | exact .inl rfl | exact .inr (.inl rfl) | exact .inr (.inr rfl))) (pg_t rfl (pgs_v (i := 2) sc29.nd rfl (by first | exact .inl rfl | exact .inr rfl) (by first | exact .inl rfl | exact .inr rfl) (pgs_v (i := 3) sc29.nd rfl (by first | exact .inl rfl | exact .inr rfl) (by first | exact .inl rfl | exact .inr rfl) (pgs_v (i := 4) sc29.nd rfl (by first | exact .inl rfl | exact .inr rfl) (by first | exact .inl rfl | exact .inr rfl) pgs_n)))))
    (ss_cons (ss_if (sp_ne hu64 (sx_eq hu64 (sx_var (i := 3) rfl (by first | exact .inl rfl | exact .inr (.inl rfl) | exact .inr (.inr rfl))) sx_int) (sx_eq hu64 (sx_var (i := 2) rfl (by first | exact .inl rfl | exact .inr (.inl rfl) | exact .inr (.inr rfl))) (sx_var (i := 0) rfl (by first | exact .inl rfl | exact .inr (.inl rfl) | exact .inr (.inr rfl))))) (ss_one (ss_ret sx_bl)) ss_nil)
    (ss_one (ss_ret (sx_call (A 13 rfl) hr rfl (T.glo 13 rfl) (T.fn 13 rfl).kp (b13 T) (sg_cons (sx_var (i := 3) rfl (by first | exact .inl rfl | exact .inr (.inl rfl) | exact .inr (.inr rfl))) (sg_cons (sx_compN [("end", 5)] rfl (by first | exact .inl rfl | exact .inr (.inl rfl) | exact .inr (.inr rfl)) (by rfl) (fun _ _ _ _ _ => (pg_v (i := 5) sc29.nd rfl (by first | exact .inl rfl | exact .inr rfl) (by first | exact .inl rfl | exact .inr rfl))) (fun _ _ _ _ _ => (pts_if (sp_val (sx_ix hu1 (sx_var (i := 5) rfl (by first | exact .inl rfl | exact .inr (.inl rfl) | exact .inr (.inr rfl))) sx_int)))) (fun _ _ _ _ _ => (sx_ix hu1 (sx_var (i := 5) rfl (by first | exact .inl rfl | exact .inr (.inl rfl) | exact .inr (.inr rfl))) sx_int)) sc29.nd) sg_nil)))))))
theorem ok30 (T : Txt K mg ts fr ci cs fdv) (A : Oks P w K mg base tab ts fdv n) : FnOk P w K mg base CX0 (n + 1) (He.ga K "says_tree") (fdv 30) ["view"] (spV K (FAof K ts) (call tab (n + 1) 30)) := by
  refine def_ok (Φ := call tab n) (d := d_says_tree) (T.fn 30 rfl) sc30 rfl rfl fun cdv A0 outer s H E hr => ?_
  have AL := alls_of T A (ball T)
  have hu1 := hu_of hr
  have hu64 := hu64_of hr
  have hu65 := hu65_of hr
  exact (ss_cons (ss_set sc30.nd rfl (by first | exact .inl rfl | exact .inr rfl) (by first | exact .inl rfl | exact .inr rfl) (sx_call (A 28 rfl) hr rfl (T.glo 28 rfl) (T.fn 28 rfl).kp (b28 T) (sg_cons (sx_var (i := 0) rfl (by first | exact .inl rfl | exact .inr (.inl rfl) | exact .inr (.inr rfl))) sg_nil)))
    (ss_one (ss_ret (sx_and (sx_isNN (sx_var (i := 1) rfl (by first | exact .inl rfl | exact .inr (.inl rfl) | exact .inr (.inr rfl)))) (sx_one (sx_call (A 29 rfl) hr rfl (T.glo 29 rfl) (T.fn 29 rfl).kp (b29 T) (sg_cons (sx_ix hu1 (sx_var (i := 0) rfl (by first | exact .inl rfl | exact .inr (.inl rfl) | exact .inr (.inr rfl))) sx_int) (sg_cons (sx_var (i := 1) rfl (by first | exact .inl rfl | exact .inr (.inl rfl) | exact .inr (.inr rfl))) sg_nil))))))))
theorem ok31 (T : Txt K mg ts fr ci cs fdv) (A : Oks P w K mg base tab ts fdv n) : FnOk P w K mg base CX0 (n + 1) (He.ga K "says_near") (fdv 31) ["view"] (spV K (FAof K ts) (call tab (n + 1) 31)) := by
  refine def_ok (Φ := call tab n) (d := d_says_near_k39) (T.fn 31 rfl) sc31 rfl rfl fun cdv A0 outer s H E hr => ?_
  have AL := alls_of T A (ball T)
  have hu1 := hu_of hr
  have hu64 := hu64_of hr
  have hu65 := hu65_of hr
  exact (ss_cons (ss_set sc31.nd rfl (by first | exact .inl rfl | exact .inr rfl) (by first | exact .inl rfl | exact .inr rfl) (sx_call (A 28 rfl) hr rfl (T.glo 28 rfl) (T.fn 28 rfl).kp (b28 T) (sg_cons (sx_var (i := 0) rfl (by first | exact .inl rfl | exact .inr (.inl rfl) | exact .inr (.inr rfl))) sg_nil)))
    (ss_cons (ss_if (sp_isN (sx_var (i := 1) rfl (by first | exact .inl rfl | exact .inr (.inl rfl) | exact .inr (.inr rfl)))) (ss_one (ss_ret sx_bl)) ss_nil)
    (ss_cons (ss_setT (sx_var (i := 1) rfl (by first | exact .inl rfl | exact .inr (.inl rfl) | exact .inr (.inr rfl))) (pg_t rfl (pgs_v (i := 3) sc31.nd rfl (by first | exact .inl rfl | exact .inr rfl) (by first | exact .inl rfl | exact .inr rfl) (pgs_v (i := 4) sc31.nd rfl (by first | exact .inl rfl | exact .inr rfl) (by first | exact .inl rfl | exact .inr rfl) (pgs_v (i := 5) sc31.nd rfl (by first | exact .inl rfl | exact .inr rfl) (by first | exact .inl rfl | exact .inr rfl) pgs_n)))))
    (ss_cons (ss_if (PW.pt (sw_or (sp_ne hu64 (sx_eq hu64 (sx_var (i := 4) rfl (by first | exact .inl rfl | exact .inr (.inl rfl) | exact .inr (.inr rfl))) sx_int) (sx_eq hu64 (sx_var (i := 3) rfl (by first | exact .inl rfl | exact .inr (.inl rfl) | exact .inr (.inr rfl))) (sx_ix hu1 (sx_var (i := 0) rfl (by first | exact .inl rfl | exact .inr (.inl rfl) | exact .inr (.inr rfl))) sx_int))) (sw_one (sp_ne hu64 (sx_eq hu64 (sx_var (i := 4) rfl (by first | exact .inl rfl | exact .inr (.inl rfl) | exact .inr (.inr rfl))) sx_int) (sx_eq hu64 (sx_ix hu1 (sx_var (i := 0) rfl (by first | exact .inl rfl | exact .inr (.inl rfl) | exact .inr (.inr rfl))) sx_int) (sx_gint rfl (T.int 5 rfl))))))) (ss_one (ss_ret sx_bl)) ss_nil)
    (ss_cons (ss_set sc31.nd rfl (by first | exact .inl rfl | exact .inr rfl) (by first | exact .inl rfl | exact .inr rfl) sx_int)
    (ss_cons (ss_forN (i := 5) rfl (by first | exact .inl rfl | exact .inr (.inl rfl) | exact .inr (.inr rfl)) (pg_t rfl (pgs_v (i := 6) sc31.nd rfl (by first | exact .inl rfl | exact .inr rfl) (by first | exact .inl rfl | exact .inr rfl) (pgs_v (i := 7) sc31.nd rfl (by first | exact .inl rfl | exact .inr rfl) (by first | exact .inl rfl | exact .inr rfl) (pgs_v (i := 8) sc31.nd rfl (by first | exact .inl rfl | exact .inr rfl) (by first | exact .inl rfl | exact .inr rfl) pgs_n)))) (ss_cons (ss_if (PW.pt (sw_or (sp_gt (sx_var (i := 4) rfl (by first | exact .inl rfl | exact .inr (.inl rfl) | exact .inr (.inr rfl))) (sx_add (sx_var (i := 8) rfl (by first | exact .inl rfl | exact .inr (.inl rfl) | exact .inr (.inr rfl))) (sx_var (i := 6) rfl (by first | exact .inl rfl | exact .inr (.inl rfl) | exact .inr (.inr rfl))))) (sw_one (PW.pt (sw_and (sp_val (sx_var (i := 7) rfl (by first | exact .inl rfl | exact .inr (.inl rfl) | exact .inr (.inr rfl)))) (sw_one (sp_ne hu64 (sx_abs rfl (T.free 7 rfl) (sx_sub (sx_var (i := 8) rfl (by first | exact .inl rfl | exact .inr (.inl rfl) | exact .inr (.inr rfl))) (sx_var (i := 4) rfl (by first | exact .inl rfl | exact .inr (.inl rfl) | exact .inr (.inr rfl))))) (sx_var (i := 6) rfl (by first | exact .inl rfl | exact .inr (.inl rfl) | exact .inr (.inr rfl)))))))))) (ss_one (ss_ret sx_bl)) ss_nil)
    (ss_one (ss_set sc31.nd rfl (by first | exact .inl rfl | exact .inr rfl) (by first | exact .inl rfl | exact .inr rfl) (sx_add (sx_var (i := 2) rfl (by first | exact .inl rfl | exact .inr (.inl rfl) | exact .inr (.inr rfl))) (sx_int1 rfl (T.free 5 rfl) (sx_and (sx_var (i := 7) rfl (by first | exact .inl rfl | exact .inr (.inl rfl) | exact .inr (.inr rfl))) (sx_one (sx_eq hu64 (sx_add (sx_var (i := 8) rfl (by first | exact .inl rfl | exact .inr (.inl rfl) | exact .inr (.inr rfl))) (sx_var (i := 6) rfl (by first | exact .inl rfl | exact .inr (.inl rfl) | exact .inr (.inr rfl)))) (sx_var (i := 4) rfl (by first | exact .inl rfl | exact .inr (.inl rfl) | exact .inr (.inr rfl))))))))))))
    (ss_one (ss_ret (sx_or (sx_eq hu64 (sx_var (i := 4) rfl (by first | exact .inl rfl | exact .inr (.inl rfl) | exact .inr (.inr rfl))) sx_int) (sx_one (sx_eq hu64 (sx_var (i := 2) rfl (by first | exact .inl rfl | exact .inr (.inl rfl) | exact .inr (.inr rfl))) sx_int)))))))))))
theorem ok32 (T : Txt K mg ts fr ci cs fdv) (A : Oks P w K mg base tab ts fdv n) : FnOk P w K mg base CX0 (n + 1) (He.ga K "says_bare") (fdv 32) ["view"] (spV K (FAof K ts) (call tab (n + 1) 32)) := by
  refine def_ok (Φ := call tab n) (d := d_says_bare) (T.fn 32 rfl) sc32 rfl rfl fun cdv A0 outer s H E hr => ?_
  have AL := alls_of T A (ball T)
  have hu1 := hu_of hr
  have hu64 := hu64_of hr
  have hu65 := hu65_of hr
  exact (ss_cons (ss_set sc32.nd rfl (by first | exact .inl rfl | exact .inr rfl) (by first | exact .inl rfl | exact .inr rfl) (sx_call (A 28 rfl) hr rfl (T.glo 28 rfl) (T.fn 28 rfl).kp (b28 T) (sg_cons (sx_var (i := 0) rfl (by first | exact .inl rfl | exact .inr (.inl rfl) | exact .inr (.inr rfl))) sg_nil)))
    (ss_cons (ss_if (sp_isN (sx_var (i := 1) rfl (by first | exact .inl rfl | exact .inr (.inl rfl) | exact .inr (.inr rfl)))) (ss_one (ss_ret sx_bl)) ss_nil)
    (ss_cons (ss_setT (sx_var (i := 1) rfl (by first | exact .inl rfl | exact .inr (.inl rfl) | exact .inr (.inr rfl))) (pg_t rfl (pgs_v (i := 2) sc32.nd rfl (by first | exact .inl rfl | exact .inr rfl) (by first | exact .inl rfl | exact .inr rfl) (pgs_v (i := 3) sc32.nd rfl (by first | exact .inl rfl | exact .inr rfl) (by first | exact .inl rfl | exact .inr rfl) (pgs_v (i := 4) sc32.nd rfl (by first | exact .inl rfl | exact .inr rfl) (by first | exact .inl rfl | exact .inr rfl) pgs_n)))))
    (ss_one (ss_ret (sx_and (sx_eq hu64 (sx_eq hu64 (sx_var (i := 3) rfl (by first | exact .inl rfl | exact .inr (.inl rfl) | exact .inr (.inr rfl))) sx_int) (sx_eq hu64 (sx_var (i := 2) rfl (by first | exact .inl rfl | exact .inr (.inl rfl) | exact .inr (.inr rfl))) (sx_ix hu1 (sx_var (i := 0) rfl (by first | exact .inl rfl | exact .inr (.inl rfl) | exact .inr (.inr rfl))) sx_int))) (sx_one (sx_call (A 13 rfl) hr rfl (T.glo 13 rfl) (T.fn 13 rfl).kp (b13 T) (sg_cons (sx_var (i := 3) rfl (by first | exact .inl rfl | exact .inr (.inl rfl) | exact .inr (.inr rfl))) (sg_cons (sx_compN [("end", 5)] rfl (by first | exact .inl rfl | exact .inr (.inl rfl) | exact .inr (.inr rfl)) (by rfl) (fun _ _ _ _ _ => (pg_v (i := 5) sc32.nd rfl (by first | exact .inl rfl | exact .inr rfl) (by first | exact .inl rfl | exact .inr rfl))) (fun _ _ _ _ _ => pts_yes) (fun _ _ _ _ _ => (sx_ix hu1 (sx_var (i := 5) rfl (by first | exact .inl rfl | exact .inr (.inl rfl) | exact .inr (.inr rfl))) sx_int)) sc32.nd) sg_nil))))))))))
theorem ok33 (T : Txt K mg ts fr ci cs fdv) (A : Oks P w K mg base tab ts fdv n) : FnOk P w K mg base CX0 (n + 1) (He.ga K "says_sides") (fdv 33) ["view"] (spV K (FAof K ts) (call tab (n + 1) 33)) := by
  refine def_ok (Φ := call tab n) (d := d_says_sides) (T.fn 33 rfl) sc33 rfl rfl fun cdv A0 outer s H E hr => ?_
  have AL := alls_of T A (ball T)
  have hu1 := hu_of hr
  have hu64 := hu64_of hr
  have hu65 := hu65_of hr
  exact (ss_cons (ss_if (sp_nin hu65 (sx_ix hu1 (sx_var (i := 0) rfl (by first | exact .inl rfl | exact .inr (.inl rfl) | exact .inr (.inr rfl))) sx_int) (sx_tup (sa_cons (sx_str (by decide +kernel) (by decide +kernel)) (sa_cons (sx_str (by decide +kernel) (by decide +kernel)) sa_nil)))) (ss_one (ss_ret sx_bl)) ss_nil)
    (ss_cons (ss_for (sx_ix hu1 (sx_var (i := 0) rfl (by first | exact .inl rfl | exact .inr (.inl rfl) | exact .inr (.inr rfl))) sx_int) (pg_t rfl (pgs_v (i := 1) sc33.nd rfl (by first | exact .inl rfl | exact .inr rfl) (by first | exact .inl rfl | exact .inr rfl) (pgs_v (i := 2) sc33.nd rfl (by first | exact .inl rfl | exact .inr rfl) (by first | exact .inl rfl | exact .inr rfl) (pgs_v (i := 3) sc33.nd rfl (by first | exact .inl rfl | exact .inr rfl) (by first | exact .inl rfl | exact .inr rfl) pgs_n)))) (ss_one (ss_if (PW.pt (sw_or (sp_nin hu65 (sx_var (i := 3) rfl (by first | exact .inl rfl | exact .inr (.inl rfl) | exact .inr (.inr rfl))) (sx_tup (sa_cons (sx_str (by decide +kernel) (by decide +kernel)) (sa_cons (sx_str (by decide +kernel) (by decide +kernel)) sa_nil)))) (sw_one (sp_eq hu64 (sx_var (i := 3) rfl (by first | exact .inl rfl | exact .inr (.inl rfl) | exact .inr (.inr rfl))) (sx_ix hu1 (sx_var (i := 0) rfl (by first | exact .inl rfl | exact .inr (.inl rfl) | exact .inr (.inr rfl))) sx_int))))) (ss_one (ss_ret sx_bl)) ss_nil)))
    (ss_one (ss_ret sx_bl))))
theorem ok34 (T : Txt K mg ts fr ci cs fdv) (A : Oks P w K mg base tab ts fdv n) : FnOk P w K mg base CX0 (n + 1) (He.ga K "says_odd") (fdv 34) ["view"] (spV K (FAof K ts) (call tab (n + 1) 34)) := by
  refine def_ok (Φ := call tab n) (d := d_says_odd) (T.fn 34 rfl) sc34 rfl rfl fun cdv A0 outer s H E hr => ?_
  have AL := alls_of T A (ball T)
  have hu1 := hu_of hr
  have hu64 := hu64_of hr
  have hu65 := hu65_of hr
  exact (ss_cons (ss_set sc34.nd rfl (by first | exact .inl rfl | exact .inr rfl) (by first | exact .inl rfl | exact .inr rfl) (sx_call (A 28 rfl) hr rfl (T.glo 28 rfl) (T.fn 28 rfl).kp (b28 T) (sg_cons (sx_var (i := 0) rfl (by first | exact .inl rfl | exact .inr (.inl rfl) | exact .inr (.inr rfl))) sg_nil)))
    (ss_cons (ss_if (sp_isN (sx_var (i := 1) rfl (by first | exact .inl rfl | exact .inr (.inl rfl) | exact .inr (.inr rfl)))) (ss_one (ss_ret sx_bl)) ss_nil)
    (ss_cons (ss_setT (sx_var (i := 1) rfl (by first | exact .inl rfl | exact .inr (.inl rfl) | exact .inr (.inr rfl))) (pg_t rfl (pgs_v (i := 2) sc34.nd rfl (by first | exact .inl rfl | exact .inr rfl) (by first | exact .inl rfl | exact .inr rfl) (pgs_v (i := 3) sc34.nd rfl (by first | exact .inl rfl | exact .inr rfl) (by first | exact .inl rfl | exact .inr rfl) (pgs_v (i := 4) sc34.nd rfl (by first | exact .inl rfl | exact .inr rfl) (by first | exact .inl rfl | exact .inr rfl) pgs_n)))))
    (ss_cons (ss_if (sp_ne hu64 (sx_eq hu64 (sx_var (i := 3) rfl (by first | exact .inl rfl | exact .inr (.inl rfl) | exact .inr (.inr rfl))) sx_int) (sx_eq hu64 (sx_var (i := 2) rfl (by first | exact .inl rfl | exact .inr (.inl rfl) | exact .inr (.inr rfl))) (sx_ix hu1 (sx_var (i := 0) rfl (by first | exact .inl rfl | exact .inr (.inl rfl) | exact .inr (.inr rfl))) sx_int))) (ss_one (ss_ret sx_bl)) ss_nil)
    (ss_cons (ss_if (sp_eq hu64 (sx_var (i := 3) rfl (by first | exact .inl rfl | exact .inr (.inl rfl) | exact .inr (.inr rfl))) sx_int) (ss_one (ss_ret (sx_ne hu64 (sx_compN [("end", 5)] rfl (by first | exact .inl rfl | exact .inr (.inl rfl) | exact .inr (.inr rfl)) (by rfl) (fun _ _ _ _ _ => (pg_v (i := 5) sc34.nd rfl (by first | exact .inl rfl | exact .inr rfl) (by first | exact .inl rfl | exact .inr rfl))) (fun _ _ _ _ _ => (pts_if (sp_eq hu64 (sx_mod (sx_ix hu1 (sx_var (i := 5) rfl (by first | exact .inl rfl | exact .inr (.inl rfl) | exact .inr (.inr rfl))) sx_int) sx_int) sx_int))) (fun _ _ _ _ _ => (sx_var (i := 5) rfl (by first | exact .inl rfl | exact .inr (.inl rfl) | exact .inr (.inr rfl)))) sc34.nd) (sx_lst sa_nil)))) ss_nil)
    (ss_one (ss_ret (sx_ne hu64 (sx_compN [("end", 5)] rfl (by first | exact .inl rfl | exact .inr (.inl rfl) | exact .inr (.inr rfl)) (by rfl) (fun _ _ _ _ _ => (pg_v (i := 5) sc34.nd rfl (by first | exact .inl rfl | exact .inr rfl) (by first | exact .inl rfl | exact .inr rfl))) (fun _ _ _ _ _ => (pts_if (sp_eq hu64 (sx_ix hu1 (sx_var (i := 5) rfl (by first | exact .inl rfl | exact .inr (.inl rfl) | exact .inr (.inr rfl))) sx_int) (sx_sub (sx_var (i := 3) rfl (by first | exact .inl rfl | exact .inr (.inl rfl) | exact .inr (.inr rfl))) sx_int)))) (fun _ _ _ _ _ => (sx_var (i := 5) rfl (by first | exact .inl rfl | exact .inr (.inl rfl) | exact .inr (.inr rfl)))) sc34.nd) (sx_lst sa_nil)))))))))
theorem ok35 (T : Txt K mg ts fr ci cs fdv) (A : Oks P w K mg base tab ts fdv n) : FnOk P w K mg base CX0 (n + 1) (He.ga K "parted") (fdv 35) ["view", "part"] (spV K (FAof K ts) (call tab (n + 1) 35)) := by
  refine def_ok (Φ := call tab n) (d := d_parted) (T.fn 35 rfl) sc35 rfl rfl fun cdv A0 outer s H E hr => ?_
  have AL := alls_of T A (ball T)
  have hu1 := hu_of hr
  have hu64 := hu64_of hr
  have hu65 := hu65_of hr
  exact (ss_cons (ss_set sc35.nd rfl (by first | exact .inl rfl | exact .inr rfl) (by first | exact .inl rfl | exact .inr rfl) (sx_callvN (i := 1) AL hr rfl (by first | exact .inl rfl | exact .inr (.inl rfl) | exact .inr (.inr rfl)) (sg_cons (sx_ix hu1 (sx_var (i := 0) rfl (by first | exact .inl rfl | exact .inr (.inl rfl) | exact .inr (.inr rfl))) sx_int) sg_nil)))
    (ss_cons (ss_setComp [("price", 4), ("told", 5), ("mark", 6)] (src_of (sx_ix hu1 (sx_var (i := 0) rfl (by first | exact .inl rfl | exact .inr (.inl rfl) | exact .inr (.inr rfl))) sx_int)) (by rfl) (fun _ _ _ _ _ => (pg_t rfl (pgs_v (i := 4) sc35.nd rfl (by first | exact .inl rfl | exact .inr rfl) (by first | exact .inl rfl | exact .inr rfl) (pgs_v (i := 5) sc35.nd rfl (by first | exact .inl rfl | exact .inr rfl) (by first | exact .inl rfl | exact .inr rfl) (pgs_v (i := 6) sc35.nd rfl (by first | exact .inl rfl | exact .inr rfl) (by first | exact .inl rfl | exact .inr rfl) pgs_n))))) (fun _ _ _ _ _ => pts_yes) (fun _ _ _ _ _ => (sx_tup (sa_cons (sx_var (i := 4) rfl (by first | exact .inl rfl | exact .inr (.inl rfl) | exact .inr (.inr rfl))) (sa_cons (sx_var (i := 5) rfl (by first | exact .inl rfl | exact .inr (.inl rfl) | exact .inr (.inr rfl))) (sa_cons (sx_callvN (i := 1) AL hr rfl (by first | exact .inl rfl | exact .inr (.inl rfl) | exact .inr (.inr rfl)) (sg_cons (sx_var (i := 6) rfl (by first | exact .inl rfl | exact .inr (.inl rfl) | exact .inr (.inr rfl))) sg_nil)) sa_nil))))) sc35.nd rfl rfl (by rfl))
    (ss_cons (ss_if (PW.pt (sw_or (sp_isN (sx_var (i := 2) rfl (by first | exact .inl rfl | exact .inr (.inl rfl) | exact .inr (.inr rfl)))) (sw_one (sp_ne hu64 (sx_compN [("end", 7)] rfl (by first | exact .inl rfl | exact .inr (.inl rfl) | exact .inr (.inr rfl)) (by rfl) (fun _ _ _ _ _ => (pg_v (i := 7) sc35.nd rfl (by first | exact .inl rfl | exact .inr rfl) (by first | exact .inl rfl | exact .inr rfl))) (fun _ _ _ _ _ => (pts_if (sp_isN (sx_ix hu1 (sx_var (i := 7) rfl (by first | exact .inl rfl | exact .inr (.inl rfl) | exact .inr (.inr rfl))) sx_int)))) (fun _ _ _ _ _ => (sx_var (i := 7) rfl (by first | exact .inl rfl | exact .inr (.inl rfl) | exact .inr (.inr rfl)))) sc35.nd) (sx_lst sa_nil))))) (ss_one (ss_ret sx_non)) ss_nil)
    (ss_one (ss_ret (sx_tup (sa_cons (sx_ix hu1 (sx_var (i := 0) rfl (by first | exact .inl rfl | exact .inr (.inl rfl) | exact .inr (.inr rfl))) sx_int) (sa_cons (sx_ix hu1 (sx_var (i := 0) rfl (by first | exact .inl rfl | exact .inr (.inl rfl) | exact .inr (.inr rfl))) sx_int) (sa_cons (sx_var (i := 2) rfl (by first | exact .inl rfl | exact .inr (.inl rfl) | exact .inr (.inr rfl))) (sa_cons (sx_var (i := 3) rfl (by first | exact .inl rfl | exact .inr (.inl rfl) | exact .inr (.inr rfl))) sa_nil))))))))))
theorem ok36 (T : Txt K mg ts fr ci cs fdv) (A : Oks P w K mg base tab ts fdv n) : FnOk P w K mg base CX0 (n + 1) (He.ga K "two_marks") (fdv 36) ["mark"] (spV K (FAof K ts) (call tab (n + 1) 36)) := by
  refine def_ok (Φ := call tab n) (d := d_two_marks) (T.fn 36 rfl) sc36 rfl rfl fun cdv A0 outer s H E hr => ?_
  have AL := alls_of T A (ball T)
  have hu1 := hu_of hr
  have hu64 := hu64_of hr
  have hu65 := hu65_of hr
  exact (ss_cons (ss_if (PW.pt (sw_or (sp_isN (sx_var (i := 0) rfl (by first | exact .inl rfl | exact .inr (.inl rfl) | exact .inr (.inr rfl)))) (sw_one (sp_lt (sx_len rfl (T.free 0 rfl) (sx_var (i := 0) rfl (by first | exact .inl rfl | exact .inr (.inl rfl) | exact .inr (.inr rfl)))) (sx_gint rfl (T.int 1 rfl)))))) (ss_one (ss_ret sx_non)) ss_nil)
    (ss_cons (ss_set sc36.nd rfl (by first | exact .inl rfl | exact .inr rfl) (by first | exact .inl rfl | exact .inr rfl) (sx_call (A 9 rfl) hr rfl (T.glo 9 rfl) (T.fn 9 rfl).kp (b9 T) (sg_cons (sx_sl (sx_var (i := 0) rfl (by first | exact .inl rfl | exact .inr (.inl rfl) | exact .inr (.inr rfl))) so_none (so_some (sx_gint rfl (T.int 1 rfl)))) sg_nil)))
    (ss_cons (ss_if (sp_lt (sx_len rfl (T.free 0 rfl) (sx_var (i := 0) rfl (by first | exact .inl rfl | exact .inr (.inl rfl) | exact .inr (.inr rfl)))) (sx_add (sx_gint rfl (T.int 1 rfl)) (sx_var (i := 1) rfl (by first | exact .inl rfl | exact .inr (.inl rfl) | exact .inr (.inr rfl))))) (ss_one (ss_ret sx_non)) ss_nil)
    (ss_one (ss_ret (sx_tup (sa_cons (sx_sl (sx_var (i := 0) rfl (by first | exact .inl rfl | exact .inr (.inl rfl) | exact .inr (.inr rfl))) (so_some (sx_gint rfl (T.int 1 rfl))) (so_some (sx_add (sx_gint rfl (T.int 1 rfl)) (sx_var (i := 1) rfl (by first | exact .inl rfl | exact .inr (.inl rfl) | exact .inr (.inr rfl)))))) (sa_cons (sx_sl (sx_var (i := 0) rfl (by first | exact .inl rfl | exact .inr (.inl rfl) | exact .inr (.inr rfl))) (so_some (sx_add (sx_gint rfl (T.int 1 rfl)) (sx_var (i := 1) rfl (by first | exact .inl rfl | exact .inr (.inl rfl) | exact .inr (.inr rfl))))) so_none) sa_nil))))))))
theorem ok37 (T : Txt K mg ts fr ci cs fdv) (A : Oks P w K mg base tab ts fdv n) : FnOk P w K mg base CX0 (n + 1) (He.ga K "part_seen") (fdv 37) ["view", "number"] (spV K (FAof K ts) (call tab (n + 1) 37)) := by
  refine def_ok (Φ := call tab n) (d := d_part_seen) (T.fn 37 rfl) sc37 rfl rfl fun cdv A0 outer s H E hr => ?_
  have AL := alls_of T A (ball T)
  have hu1 := hu_of hr
  have hu64 := hu64_of hr
  have hu65 := hu65_of hr
  exact (ss_one (ss_ret (sx_tup (sa_cons (sx_ix hu1 (sx_var (i := 0) rfl (by first | exact .inl rfl | exact .inr (.inl rfl) | exact .inr (.inr rfl))) sx_int) (sa_cons (sx_ix hu1 (sx_var (i := 0) rfl (by first | exact .inl rfl | exact .inr (.inl rfl) | exact .inr (.inr rfl))) sx_int) (sa_cons (sx_ix hu1 (sx_ix hu1 (sx_var (i := 0) rfl (by first | exact .inl rfl | exact .inr (.inl rfl) | exact .inr (.inr rfl))) sx_int) (sx_var (i := 1) rfl (by first | exact .inl rfl | exact .inr (.inl rfl) | exact .inr (.inr rfl)))) (sa_cons (sx_comp [("price", 2), ("told", 3), ("mark", 4)] (src_of (sx_ix hu1 (sx_var (i := 0) rfl (by first | exact .inl rfl | exact .inr (.inl rfl) | exact .inr (.inr rfl))) sx_int)) (by rfl) (fun _ _ _ _ _ => (pg_t rfl (pgs_v (i := 2) sc37.nd rfl (by first | exact .inl rfl | exact .inr rfl) (by first | exact .inl rfl | exact .inr rfl) (pgs_v (i := 3) sc37.nd rfl (by first | exact .inl rfl | exact .inr rfl) (by first | exact .inl rfl | exact .inr rfl) (pgs_v (i := 4) sc37.nd rfl (by first | exact .inl rfl | exact .inr rfl) (by first | exact .inl rfl | exact .inr rfl) pgs_n))))) (fun _ _ _ _ _ => pts_yes) (fun _ _ _ _ _ => (sx_tup (sa_cons (sx_var (i := 2) rfl (by first | exact .inl rfl | exact .inr (.inl rfl) | exact .inr (.inr rfl))) (sa_cons (sx_var (i := 3) rfl (by first | exact .inl rfl | exact .inr (.inl rfl) | exact .inr (.inr rfl))) (sa_cons (sx_ix hu1 (sx_var (i := 4) rfl (by first | exact .inl rfl | exact .inr (.inl rfl) | exact .inr (.inr rfl))) (sx_var (i := 1) rfl (by first | exact .inl rfl | exact .inr (.inl rfl) | exact .inr (.inr rfl)))) sa_nil))))) sc37.nd) sa_nil)))))))
theorem ok38 (T : Txt K mg ts fr ci cs fdv) (A : Oks P w K mg base tab ts fdv n) : FnOk P w K mg base CX0 (n + 1) (He.ga K "says_both") (fdv 38) ["saying", "view"] (spV K (FAof K ts) (call tab (n + 1) 38)) := by
  refine def_ok (Φ := call tab n) (d := d_says_both_k39) (T.fn 38 rfl) sc38 rfl rfl fun cdv A0 outer s H E hr => ?_
  have AL := alls_of T A (ball T)
  have hu1 := hu_of hr
  have hu64 := hu64_of hr
  have hu65 := hu65_of hr
  exact (ss_cons (ss_set sc38.nd rfl (by first | exact .inl rfl | exact .inr rfl) (by first | exact .inl rfl | exact .inr rfl) (sx_call (A 35 rfl) hr rfl (T.glo 35 rfl) (T.fn 35 rfl).kp (b35 T) (sg_cons (sx_var (i := 1) rfl (by first | exact .inl rfl | exact .inr (.inl rfl) | exact .inr (.inr rfl))) (sg_cons (sx_fnv (g := 36) rfl (T.glo 36 rfl) ⟨_, _, _, rfl, rfl⟩) sg_nil))))
    (ss_cons (ss_if (sp_isN (sx_var (i := 2) rfl (by first | exact .inl rfl | exact .inr (.inl rfl) | exact .inr (.inr rfl)))) (ss_one (ss_ret sx_bl)) ss_nil)
    (ss_one (ss_ret (sx_and (sx_call (A 42 rfl) hr rfl (T.glo 42 rfl) (T.fn 42 rfl).kp (b42 T) (sg_cons (sx_ix hu1 (sx_var (i := 0) rfl (by first | exact .inl rfl | exact .inr (.inl rfl) | exact .inr (.inr rfl))) sx_int) (sg_cons (sx_call (A 37 rfl) hr rfl (T.glo 37 rfl) (T.fn 37 rfl).kp (b37 T) (sg_cons (sx_var (i := 2) rfl (by first | exact .inl rfl | exact .inr (.inl rfl) | exact .inr (.inr rfl))) (sg_cons sx_int sg_nil))) sg_nil))) (sx_one (sx_call (A 42 rfl) hr rfl (T.glo 42 rfl) (T.fn 42 rfl).kp (b42 T) (sg_cons (sx_ix hu1 (sx_var (i := 0) rfl (by first | exact .inl rfl | exact .inr (.inl rfl) | exact .inr (.inr rfl))) sx_int) (sg_cons (sx_call (A 37 rfl) hr rfl (T.glo 37 rfl) (T.fn 37 rfl).kp (b37 T) (sg_cons (sx_var (i := 2) rfl (by first | exact .inl rfl | exact .inr (.inl rfl) | exact .inr (.inr rfl))) (sg_cons sx_int sg_nil))) sg_nil)))))))))
theorem ok39 (T : Txt K mg ts fr ci cs fdv) (A : Oks P w K mg base tab ts fdv n) : FnOk P w K mg base CX0 (n + 1) (He.ga K "chosen_mark") (fdv 39) ["mark"] (spV K (FAof K ts) (call tab (n + 1) 39)) := by
  refine def_ok (Φ := call tab n) (d := d_chosen_mark) (T.fn 39 rfl) sc39 rfl rfl fun cdv A0 outer s H E hr => ?_
  have AL := alls_of T A (ball T)
  have hu1 := hu_of hr
  have hu64 := hu64_of hr
  have hu65 := hu65_of hr
  exact (ss_cons (ss_if (PW.pt (sw_or (sp_isN (sx_var (i := 0) rfl (by first | exact .inl rfl | exact .inr (.inl rfl) | exact .inr (.inr rfl)))) (sw_one (sp_eq hu64 (sx_var (i := 0) rfl (by first | exact .inl rfl | exact .inr (.inl rfl) | exact .inr (.inr rfl))) (sx_str (by decide +kernel) (by decide +kernel)))))) (ss_one (ss_ret sx_non)) ss_nil)
    (ss_one (ss_ret (sx_tup (sa_cons (sx_ix hu1 (sx_var (i := 0) rfl (by first | exact .inl rfl | exact .inr (.inl rfl) | exact .inr (.inr rfl))) sx_int) (sa_cons (sx_sl (sx_var (i := 0) rfl (by first | exact .inl rfl | exact .inr (.inl rfl) | exact .inr (.inr rfl))) (so_some sx_int) so_none) sa_nil))))))
theorem ok40 (T : Txt K mg ts fr ci cs fdv) (A : Oks P w K mg base tab ts fdv n) : FnOk P w K mg base CX0 (n + 1) (He.ga K "says_either") (fdv 40) ["saying", "view"] (spV K (FAof K ts) (call tab (n + 1) 40)) := by
  refine def_ok (Φ := call tab n) (d := d_says_either_k39) (T.fn 40 rfl) sc40 rfl rfl fun cdv A0 outer s H E hr => ?_
  have AL := alls_of T A (ball T)
  have hu1 := hu_of hr
  have hu64 := hu64_of hr
  have hu65 := hu65_of hr
  exact (ss_cons (ss_set sc40.nd rfl (by first | exact .inl rfl | exact .inr rfl) (by first | exact .inl rfl | exact .inr rfl) (sx_call (A 35 rfl) hr rfl (T.glo 35 rfl) (T.fn 35 rfl).kp (b35 T) (sg_cons (sx_var (i := 1) rfl (by first | exact .inl rfl | exact .inr (.inl rfl) | exact .inr (.inr rfl))) (sg_cons (sx_fnv (g := 39) rfl (T.glo 39 rfl) ⟨_, _, _, rfl, rfl⟩) sg_nil))))
    (ss_cons (ss_if (PW.pt (sw_or (sp_isN (sx_var (i := 2) rfl (by first | exact .inl rfl | exact .inr (.inl rfl) | exact .inr (.inr rfl)))) (sw_one (sp_ne hu64 (sx_comp [("end", 3)] (src_of (sx_ix hu1 (sx_var (i := 2) rfl (by first | exact .inl rfl | exact .inr (.inl rfl) | exact .inr (.inr rfl))) sx_int)) (by rfl) (fun _ _ _ _ _ => (pg_v (i := 3) sc40.nd rfl (by first | exact .inl rfl | exact .inr rfl) (by first | exact .inl rfl | exact .inr rfl))) (fun _ _ _ _ _ => (pts_if (sp_ne hu64 (sx_ix hu1 (sx_ix hu1 (sx_var (i := 3) rfl (by first | exact .inl rfl | exact .inr (.inl rfl) | exact .inr (.inr rfl))) sx_int) sx_int) (sx_ix hu1 (sx_ix hu1 (sx_var (i := 2) rfl (by first | exact .inl rfl | exact .inr (.inl rfl) | exact .inr (.inr rfl))) sx_int) sx_int)))) (fun _ _ _ _ _ => (sx_var (i := 3) rfl (by first | exact .inl rfl | exact .inr (.inl rfl) | exact .inr (.inr rfl)))) sc40.nd) (sx_lst sa_nil))))) (ss_one (ss_ret sx_bl)) ss_nil)
    (ss_one (ss_ret (sx_call (A 42 rfl) hr rfl (T.glo 42 rfl) (T.fn 42 rfl).kp (b42 T) (sg_cons (sx_ix hu1 (sx_var (i := 0) rfl (by first | exact .inl rfl | exact .inr (.inl rfl) | exact .inr (.inr rfl))) (sx_add sx_int (sx_int1 rfl (T.free 5 rfl) (sx_ix hu1 (sx_ix hu1 (sx_var (i := 2) rfl (by first | exact .inl rfl | exact .inr (.inl rfl) | exact .inr (.inr rfl))) sx_int) sx_int)))) (sg_cons (sx_call (A 37 rfl) hr rfl (T.glo 37 rfl) (T.fn 37 rfl).kp (b37 T) (sg_cons (sx_var (i := 2) rfl (by first | exact .inl rfl | exact .inr (.inl rfl) | exact .inr (.inr rfl))) (sg_cons sx_int sg_nil))) sg_nil)))))))
theorem ok41 (T : Txt K mg ts fr ci cs fdv) (A : Oks P w K mg base tab ts fdv n) : FnOk P w K mg base CX0 (n + 1) (He.ga K "says_many") (fdv 41) ["view", "many"] (spV K (FAof K ts) (call tab (n + 1) 41)) := by
  refine def_ok (Φ := call tab n) (d := d_says_many) (T.fn 41 rfl) sc41 rfl rfl fun cdv A0 outer s H E hr => ?_
  have AL := alls_of T A (ball T)
  have hu1 := hu_of hr
  have hu64 := hu64_of hr
  have hu65 := hu65_of hr
  exact (ss_cons (ss_set sc41.nd rfl (by first | exact .inl rfl | exact .inr rfl) (by first | exact .inl rfl | exact .inr rfl) (sx_call (A 12 rfl) hr rfl (T.glo 12 rfl) (T.fn 12 rfl).kp (b12 T) (sg_cons (sx_var (i := 0) rfl (by first | exact .inl rfl | exact .inr (.inl rfl) | exact .inr (.inr rfl))) (sg_cons sx_int sg_nil))))
    (ss_cons (ss_if (sp_isN (sx_var (i := 2) rfl (by first | exact .inl rfl | exact .inr (.inl rfl) | exact .inr (.inr rfl)))) (ss_one (ss_ret sx_bl)) ss_nil)
    (ss_cons (ss_setT (sx_var (i := 2) rfl (by first | exact .inl rfl | exact .inr (.inl rfl) | exact .inr (.inr rfl))) (pg_t rfl (pgs_v (i := 3) sc41.nd rfl (by first | exact .inl rfl | exact .inr rfl) (by first | exact .inl rfl | exact .inr rfl) (pgs_v (i := 4) sc41.nd rfl (by first | exact .inl rfl | exact .inr rfl) (by first | exact .inl rfl | exact .inr rfl) pgs_n))))
    (ss_cons (ss_if (PW.pt (sw_or (sp_ne hu64 (sx_comp [("fields", 5)] (src_of (sx_cat (sx_lst (sa_cons (sx_var (i := 3) rfl (by first | exact .inl rfl | exact .inr (.inl rfl) | exact .inr (.inr rfl))) sa_nil)) (sx_var (i := 4) rfl (by first | exact .inl rfl | exact .inr (.inl rfl) | exact .inr (.inr rfl))))) (by rfl) (fun _ _ _ _ _ => (pg_v (i := 5) sc41.nd rfl (by first | exact .inl rfl | exact .inr rfl) (by first | exact .inl rfl | exact .inr rfl))) (fun _ _ _ _ _ => (pts_if (sp_ne hu64 (sx_len rfl (T.free 0 rfl) (sx_var (i := 5) rfl (by first | exact .inl rfl | exact .inr (.inl rfl) | exact .inr (.inr rfl)))) sx_int))) (fun _ _ _ _ _ => (sx_var (i := 5) rfl (by first | exact .inl rfl | exact .inr (.inl rfl) | exact .inr (.inr rfl)))) sc41.nd) (sx_lst sa_nil)) (sw_one (sp_not (sp_val (sx_call (A 24 rfl) hr rfl (T.glo 24 rfl) (T.fn 24 rfl).kp (b24 T) (sg_cons (sx_ix hu1 (sx_var (i := 0) rfl (by first | exact .inl rfl | exact .inr (.inl rfl) | exact .inr (.inr rfl))) sx_int) (sg_cons (sx_var (i := 3) rfl (by first | exact .inl rfl | exact .inr (.inl rfl) | exact .inr (.inr rfl))) (sg_cons (sx_var (i := 4) rfl (by first | exact .inl rfl | exact .inr (.inl rfl) | exact .inr (.inr rfl))) sg_nil))))))))) (ss_one (ss_ret sx_bl)) ss_nil)
    (ss_cons (ss_if (PW.pt (sw_and (sp_eq hu64 (sx_ix hu1 (sx_var (i := 3) rfl (by first | exact .inl rfl | exact .inr (.inl rfl) | exact .inr (.inr rfl))) sx_int) (sx_ix hu1 (sx_var (i := 0) rfl (by first | exact .inl rfl | exact .inr (.inl rfl) | exact .inr (.inr rfl))) sx_int)) (sw_one (sp_ne hu64 (sx_ix hu1 (sx_var (i := 3) rfl (by first | exact .inl rfl | exact .inr (.inl rfl) | exact .inr (.inr rfl))) sx_int) (sx_var (i := 1) rfl (by first | exact .inl rfl | exact .inr (.inl rfl) | exact .inr (.inr rfl))))))) (ss_one (ss_ret sx_bl)) ss_nil)
    (ss_one (ss_ret (sx_eq hu64 (sx_ix hu1 (sx_var (i := 3) rfl (by first | exact .inl rfl | exact .inr (.inl rfl) | exact .inr (.inr rfl))) sx_int) (sx_add sx_int (sx_sum rfl (T.free 12 rfl) (sx_comp [("end", 6)] (src_of (sx_call (A 22 rfl) hr rfl (T.glo 22 rfl) (T.fn 22 rfl).kp (b22 T) (sg_cons (sx_ix hu1 (sx_var (i := 0) rfl (by first | exact .inl rfl | exact .inr (.inl rfl) | exact .inr (.inr rfl))) sx_int) (sg_cons (sx_var (i := 3) rfl (by first | exact .inl rfl | exact .inr (.inl rfl) | exact .inr (.inr rfl))) (sg_cons (sx_var (i := 4) rfl (by first | exact .inl rfl | exact .inr (.inl rfl) | exact .inr (.inr rfl))) sg_nil))))) (by rfl) (fun _ _ _ _ _ => (pg_v (i := 6) sc41.nd rfl (by first | exact .inl rfl | exact .inr rfl) (by first | exact .inl rfl | exact .inr rfl))) (fun _ _ _ _ _ => pts_yes) (fun _ _ _ _ _ => (sx_ix hu1 (sx_var (i := 6) rfl (by first | exact .inl rfl | exact .inr (.inl rfl) | exact .inr (.inr rfl))) sx_int)) sc41.nd)))))))))))
theorem ok42 (T : Txt K mg ts fr ci cs fdv) (A : Oks P w K mg base tab ts fdv n) : FnOk P w K mg base CX0 (n + 1) (He.ga K "says") (fdv 42) ["saying", "view"] (spV K (FAof K ts) (call tab (n + 1) 42)) := by
  refine def_ok (Φ := call tab n) (d := d_says_k39) (T.fn 42 rfl) sc42 rfl rfl fun cdv A0 outer s H E hr => ?_
  have AL := alls_of T A (ball T)
  have hu1 := hu_of hr
  have hu64 := hu64_of hr
  have hu65 := hu65_of hr
  exact (ss_cons (ss_if (sp_eq hu64 (sx_ix hu1 (sx_var (i := 0) rfl (by first | exact .inl rfl | exact .inr (.inl rfl) | exact .inr (.inr rfl))) sx_int) (sx_str (by decide +kernel) (by decide +kernel))) (ss_one (ss_ret (sx_call (A 38 rfl) hr rfl (T.glo 38 rfl) (T.fn 38 rfl).kp (b38 T) (sg_cons (sx_var (i := 0) rfl (by first | exact .inl rfl | exact .inr (.inl rfl) | exact .inr (.inr rfl))) (sg_cons (sx_var (i := 1) rfl (by first | exact .inl rfl | exact .inr (.inl rfl) | exact .inr (.inr rfl))) sg_nil))))) ss_nil)
    (ss_cons (ss_if (sp_eq hu64 (sx_ix hu1 (sx_var (i := 0) rfl (by first | exact .inl rfl | exact .inr (.inl rfl) | exact .inr (.inr rfl))) sx_int) (sx_str (by decide +kernel) (by decide +kernel))) (ss_one (ss_ret (sx_call (A 40 rfl) hr rfl (T.glo 40 rfl) (T.fn 40 rfl).kp (b40 T) (sg_cons (sx_var (i := 0) rfl (by first | exact .inl rfl | exact .inr (.inl rfl) | exact .inr (.inr rfl))) (sg_cons (sx_var (i := 1) rfl (by first | exact .inl rfl | exact .inr (.inl rfl) | exact .inr (.inr rfl))) sg_nil))))) ss_nil)
    (ss_cons (ss_if (sp_eq hu64 (sx_ix hu1 (sx_var (i := 0) rfl (by first | exact .inl rfl | exact .inr (.inl rfl) | exact .inr (.inr rfl))) sx_int) (sx_str (by decide +kernel) (by decide +kernel))) (ss_one (ss_ret (sx_call (A 41 rfl) hr rfl (T.glo 41 rfl) (T.fn 41 rfl).kp (b41 T) (sg_cons (sx_var (i := 1) rfl (by first | exact .inl rfl | exact .inr (.inl rfl) | exact .inr (.inr rfl))) (sg_cons (sx_ix hu1 (sx_var (i := 0) rfl (by first | exact .inl rfl | exact .inr (.inl rfl) | exact .inr (.inr rfl))) sx_int) sg_nil))))) ss_nil)
    (ss_cons (ss_set sc42.nd rfl (by first | exact .inl rfl | exact .inr rfl) (by first | exact .inl rfl | exact .inr rfl) (sx_dct (pd_cons (sx_str (by decide +kernel) (by decide +kernel)) (sx_fnv (g := 30) rfl (T.glo 30 rfl) ⟨_, _, _, rfl, rfl⟩) (pd_cons (sx_str (by decide +kernel) (by decide +kernel)) (sx_fnv (g := 31) rfl (T.glo 31 rfl) ⟨_, _, _, rfl, rfl⟩) (pd_cons (sx_str (by decide +kernel) (by decide +kernel)) (sx_fnv (g := 32) rfl (T.glo 32 rfl) ⟨_, _, _, rfl, rfl⟩) (pd_cons (sx_str (by decide +kernel) (by decide +kernel)) (sx_fnv (g := 33) rfl (T.glo 33 rfl) ⟨_, _, _, rfl, rfl⟩) (pd_cons (sx_str (by decide +kernel) (by decide +kernel)) (sx_fnv (g := 34) rfl (T.glo 34 rfl) ⟨_, _, _, rfl, rfl⟩) pd_nil)))))))
    (ss_cons (ss_setIx rfl (by first | exact .inl rfl | exact .inr (.inl rfl) | exact .inr (.inr rfl)) (sx_fnv (g := 8) rfl (T.glo 8 rfl) ⟨_, _, _, rfl, rfl⟩) (sx_str (by decide +kernel) (by decide +kernel)) hu1)
    (ss_cons (ss_setIx rfl (by first | exact .inl rfl | exact .inr (.inl rfl) | exact .inr (.inr rfl)) (sx_fnv (g := 19) rfl (T.glo 19 rfl) ⟨_, _, _, rfl, rfl⟩) (sx_str (by decide +kernel) (by decide +kernel)) hu1)
    (ss_cons (ss_setIx rfl (by first | exact .inl rfl | exact .inr (.inl rfl) | exact .inr (.inr rfl)) (sx_fnv (g := 20) rfl (T.glo 20 rfl) ⟨_, _, _, rfl, rfl⟩) (sx_str (by decide +kernel) (by decide +kernel)) hu1)
    (ss_cons (ss_setIx rfl (by first | exact .inl rfl | exact .inr (.inl rfl) | exact .inr (.inr rfl)) (sx_fnv (g := 26) rfl (T.glo 26 rfl) ⟨_, _, _, rfl, rfl⟩) (sx_str (by decide +kernel) (by decide +kernel)) hu1)
    (ss_one (ss_ret (sx_callv AL hr (sx_ix hu1 (sx_var (i := 2) rfl (by first | exact .inl rfl | exact .inr (.inl rfl) | exact .inr (.inr rfl))) (sx_ix hu1 (sx_var (i := 0) rfl (by first | exact .inl rfl | exact .inr (.inl rfl) | exact .inr (.inr rfl))) sx_int)) (sg_cons (sx_var (i := 1) rfl (by first | exact .inl rfl | exact .inr (.inl rfl) | exact .inr (.inr rfl))) sg_nil))))))))))))
theorem ok43 (T : Txt K mg ts fr ci cs fdv) (A : Oks P w K mg base tab ts fdv n) : FnOk P w K mg base CX0 (n + 1) (He.ga K "_law_said") (fdv 43) ["_law_saying", "_law_view"] (spV K (FAof K ts) (call tab (n + 1) 43)) := by
  refine def_ok (Φ := call tab n) (d := d_law_said) (T.fn 43 rfl) sc43 rfl rfl fun cdv A0 outer s H E hr => ?_
  have AL := alls_of T A (ball T)
  have hu1 := hu_of hr
  have hu64 := hu64_of hr
  have hu65 := hu65_of hr
  exact (ss_cons (ss_set sc43.nd rfl (by first | exact .inl rfl | exact .inr rfl) (by first | exact .inl rfl | exact .inr rfl) (sx_tup (sa_cons (sx_ix hu1 (sx_var (i := 1) rfl (by first | exact .inl rfl | exact .inr (.inl rfl) | exact .inr (.inr rfl))) sx_int) (sa_cons (sx_ix hu1 (sx_var (i := 1) rfl (by first | exact .inl rfl | exact .inr (.inl rfl) | exact .inr (.inr rfl))) sx_int) (sa_cons (sx_ix hu1 (sx_var (i := 1) rfl (by first | exact .inl rfl | exact .inr (.inl rfl) | exact .inr (.inr rfl))) sx_int) (sa_cons (sx_list rfl (T.free 13 rfl) (sx_ix hu1 (sx_var (i := 1) rfl (by first | exact .inl rfl | exact .inr (.inl rfl) | exact .inr (.inr rfl))) sx_int)) sa_nil))))))
    (ss_cons (ss_set sc43.nd rfl (by first | exact .inl rfl | exact .inr rfl) (by first | exact .inl rfl | exact .inr rfl) (sx_call (A 42 rfl) hr rfl (T.glo 42 rfl) (T.fn 42 rfl).kp (b42 T) (sg_cons (sx_var (i := 0) rfl (by first | exact .inl rfl | exact .inr (.inl rfl) | exact .inr (.inr rfl))) (sg_cons (sx_var (i := 2) rfl (by first | exact .inl rfl | exact .inr (.inl rfl) | exact .inr (.inr rfl))) sg_nil))))
    (ss_cons (ss_if (PW.pt (sw_or (sp_not (sp_val (sx_isi .bool boot_bool' rfl (T.free 6 rfl) rfl (T.free 14 rfl) (sx_var (i := 3) rfl (by first | exact .inl rfl | exact .inr (.inl rfl) | exact .inr (.inr rfl)))))) (sw_one (sp_ne hu64 (sx_var (i := 2) rfl (by first | exact .inl rfl | exact .inr (.inl rfl) | exact .inr (.inr rfl))) (sx_var (i := 1) rfl (by first | exact .inl rfl | exact .inr (.inl rfl) | exact .inr (.inr rfl))))))) (ss_one (ss_ret sx_non)) ss_nil)
    (ss_one (ss_ret (sx_var (i := 3) rfl (by first | exact .inl rfl | exact .inr (.inl rfl) | exact .inr (.inr rfl))))))))
theorem ok44 (T : Txt K mg ts fr ci cs fdv) (A : Oks P w K mg base tab ts fdv n) : FnOk P w K mg base CX0 (n + 1) (He.ga K "_law_read") (fdv 44) ["_law_mark_here"] (spV K (FAof K ts) (call tab (n + 1) 44)) := by
  refine def_ok (Φ := call tab n) (d := d_law_read_k39) (T.fn 44 rfl) sc44 rfl rfl fun cdv A0 outer s H E hr => ?_
  have AL := alls_of T A (ball T)
  have hu1 := hu_of hr
  have hu64 := hu64_of hr
  have hu65 := hu65_of hr
  exact (ss_cons (ss_if (PW.pt (sw_or (sp_isN (sx_var (i := 0) rfl (by first | exact .inl rfl | exact .inr (.inl rfl) | exact .inr (.inr rfl)))) (sw_one (sp_ne hu64 (sx_len rfl (T.free 0 rfl) (sx_var (i := 0) rfl (by first | exact .inl rfl | exact .inr (.inl rfl) | exact .inr (.inr rfl)))) sx_int)))) (ss_one (ss_ret sx_non)) ss_nil)
    (ss_cons (ss_set sc44.nd rfl (by first | exact .inl rfl | exact .inr rfl) (by first | exact .inl rfl | exact .inr rfl) (sx_lst (sa_cons sx_int (sa_cons sx_int sa_nil))))
    (ss_cons (ss_range1 rfl (T.free 4 rfl) (sa_cons sx_int sa_nil) (pg_v (i := 2) sc44.nd rfl (by first | exact .inl rfl | exact .inr rfl) (by first | exact .inl rfl | exact .inr rfl)) (ss_one (ss_setIx rfl (by first | exact .inl rfl | exact .inr (.inl rfl) | exact .inr (.inr rfl)) (sx_add (sx_mul (sx_ix hu1 (sx_var (i := 1) rfl (by first | exact .inl rfl | exact .inr (.inl rfl) | exact .inr (.inr rfl))) (sx_fdiv (sx_var (i := 2) rfl (by first | exact .inl rfl | exact .inr (.inl rfl) | exact .inr (.inr rfl))) sx_int)) sx_int) (sx_int1 rfl (T.free 5 rfl) (sx_ix hu1 (sx_var (i := 0) rfl (by first | exact .inl rfl | exact .inr (.inl rfl) | exact .inr (.inr rfl))) (sx_var (i := 2) rfl (by first | exact .inl rfl | exact .inr (.inl rfl) | exact .inr (.inr rfl)))))) (sx_fdiv (sx_var (i := 2) rfl (by first | exact .inl rfl | exact .inr (.inl rfl) | exact .inr (.inr rfl))) sx_int) hu1)))
    (ss_one (ss_ret (sx_var (i := 1) rfl (by first | exact .inl rfl | exact .inr (.inl rfl) | exact .inr (.inr rfl))))))))
theorem ok45 (T : Txt K mg ts fr ci cs fdv) (A : Oks P w K mg base tab ts fdv n) : FnOk P w K mg base CX0 (n + 1) (He.ga K "_law_pairs") (fdv 45) ["_law_view"] (spV K (FAof K ts) (call tab (n + 1) 45)) := by
  refine def_ok (Φ := call tab n) (d := d_law_pairs_k39) (T.fn 45 rfl) sc45 rfl rfl fun cdv A0 outer s H E hr => ?_
  have AL := alls_of T A (ball T)
  have hu1 := hu_of hr
  have hu64 := hu64_of hr
  have hu65 := hu65_of hr
  exact (ss_cons (ss_set sc45.nd rfl (by first | exact .inl rfl | exact .inr rfl) (by first | exact .inl rfl | exact .inr rfl) (sx_call (A 44 rfl) hr rfl (T.glo 44 rfl) (T.fn 44 rfl).kp (b44 T) (sg_cons (sx_ix hu1 (sx_var (i := 0) rfl (by first | exact .inl rfl | exact .inr (.inl rfl) | exact .inr (.inr rfl))) sx_int) sg_nil)))
    (ss_cons (ss_setComp [("_law_end_here", 3)] (src_of (sx_ix hu1 (sx_var (i := 0) rfl (by first | exact .inl rfl | exact .inr (.inl rfl) | exact .inr (.inr rfl))) sx_int)) (by rfl) (fun _ _ _ _ _ => (pg_v (i := 3) sc45.nd rfl (by first | exact .inl rfl | exact .inr rfl) (by first | exact .inl rfl | exact .inr rfl))) (fun _ _ _ _ _ => pts_yes) (fun _ _ _ _ _ => (sx_call (A 44 rfl) hr rfl (T.glo 44 rfl) (T.fn 44 rfl).kp (b44 T) (sg_cons (sx_ix hu1 (sx_var (i := 3) rfl (by first | exact .inl rfl | exact .inr (.inl rfl) | exact .inr (.inr rfl))) sx_int) sg_nil))) sc45.nd rfl rfl (by rfl))
    (ss_cons (ss_if (PW.pt (sw_or (sp_isN (sx_var (i := 1) rfl (by first | exact .inl rfl | exact .inr (.inl rfl) | exact .inr (.inr rfl)))) (sw_or (sp_in hu65 sx_non (sx_var (i := 2) rfl (by first | exact .inl rfl | exact .inr (.inl rfl) | exact .inr (.inr rfl)))) (sw_one (sp_ne hu64 (sx_compN [("_law_other", 4)] rfl (by first | exact .inl rfl | exact .inr (.inl rfl) | exact .inr (.inr rfl)) (by rfl) (fun _ _ _ _ _ => (pg_v (i := 4) sc45.nd rfl (by first | exact .inl rfl | exact .inr rfl) (by first | exact .inl rfl | exact .inr rfl))) (fun _ _ _ _ _ => (pts_if (sp_ne hu64 (sx_ix hu1 (sx_var (i := 4) rfl (by first | exact .inl rfl | exact .inr (.inl rfl) | exact .inr (.inr rfl))) sx_int) (sx_ix hu1 (sx_var (i := 1) rfl (by first | exact .inl rfl | exact .inr (.inl rfl) | exact .inr (.inr rfl))) sx_int)))) (fun _ _ _ _ _ => (sx_var (i := 4) rfl (by first | exact .inl rfl | exact .inr (.inl rfl) | exact .inr (.inr rfl)))) sc45.nd) (sx_lst sa_nil)))))) (ss_one (ss_ret sx_non)) ss_nil)
    (ss_one (ss_ret (sx_tup (sa_cons (sx_ix hu1 (sx_var (i := 1) rfl (by first | exact .inl rfl | exact .inr (.inl rfl) | exact .inr (.inr rfl))) sx_int) (sa_cons (sx_ix hu1 (sx_var (i := 1) rfl (by first | exact .inl rfl | exact .inr (.inl rfl) | exact .inr (.inr rfl))) sx_int) (sa_cons (sx_compN [("_law_other", 4)] rfl (by first | exact .inl rfl | exact .inr (.inl rfl) | exact .inr (.inr rfl)) (by rfl) (fun _ _ _ _ _ => (pg_v (i := 4) sc45.nd rfl (by first | exact .inl rfl | exact .inr rfl) (by first | exact .inl rfl | exact .inr rfl))) (fun _ _ _ _ _ => pts_yes) (fun _ _ _ _ _ => (sx_ix hu1 (sx_var (i := 4) rfl (by first | exact .inl rfl | exact .inr (.inl rfl) | exact .inr (.inr rfl))) sx_int)) sc45.nd) sa_nil)))))))))
theorem ok46 (T : Txt K mg ts fr ci cs fdv) (A : Oks P w K mg base tab ts fdv n) : FnOk P w K mg base CX0 (n + 1) (He.ga K "_law_due") (fdv 46) ["_law_view"] (spV K (FAof K ts) (call tab (n + 1) 46)) := by
  refine def_ok (Φ := call tab n) (d := d_law_due_k40) (T.fn 46 rfl) sc46 rfl rfl fun cdv A0 outer s H E hr => ?_
  have AL := alls_of T A (ball T)
  have hu1 := hu_of hr
  have hu64 := hu64_of hr
  have hu65 := hu65_of hr
  exact (ss_cons (ss_set sc46.nd rfl (by first | exact .inl rfl | exact .inr rfl) (by first | exact .inl rfl | exact .inr rfl) (sx_call (A 45 rfl) hr rfl (T.glo 45 rfl) (T.fn 45 rfl).kp (b45 T) (sg_cons (sx_var (i := 0) rfl (by first | exact .inl rfl | exact .inr (.inl rfl) | exact .inr (.inr rfl))) sg_nil)))
    (ss_cons (ss_if (sp_isN (sx_var (i := 1) rfl (by first | exact .inl rfl | exact .inr (.inl rfl) | exact .inr (.inr rfl)))) (ss_one (ss_ret sx_bl)) ss_nil)
    (ss_cons (ss_setT (sx_var (i := 1) rfl (by first | exact .inl rfl | exact .inr (.inl rfl) | exact .inr (.inr rfl))) (pg_t rfl (pgs_v (i := 3) sc46.nd rfl (by first | exact .inl rfl | exact .inr rfl) (by first | exact .inl rfl | exact .inr rfl) (pgs_v (i := 4) sc46.nd rfl (by first | exact .inl rfl | exact .inr rfl) (by first | exact .inl rfl | exact .inr rfl) (pgs_v (i := 5) sc46.nd rfl (by first | exact .inl rfl | exact .inr rfl) (by first | exact .inl rfl | exact .inr rfl) pgs_n)))))
    (ss_cons (ss_if (PW.pt (sw_or (sp_ne hu64 (sx_eq hu64 (sx_var (i := 4) rfl (by first | exact .inl rfl | exact .inr (.inl rfl) | exact .inr (.inr rfl))) sx_int) (sx_eq hu64 (sx_var (i := 3) rfl (by first | exact .inl rfl | exact .inr (.inl rfl) | exact .inr (.inr rfl))) (sx_ix hu1 (sx_var (i := 0) rfl (by first | exact .inl rfl | exact .inr (.inl rfl) | exact .inr (.inr rfl))) sx_int))) (sw_one (sp_ne hu64 (sx_eq hu64 (sx_var (i := 4) rfl (by first | exact .inl rfl | exact .inr (.inl rfl) | exact .inr (.inr rfl))) sx_int) (sx_eq hu64 (sx_ix hu1 (sx_var (i := 0) rfl (by first | exact .inl rfl | exact .inr (.inl rfl) | exact .inr (.inr rfl))) sx_int) sx_int))))) (ss_one (ss_ret sx_bl)) ss_nil)
    (ss_cons (ss_set sc46.nd rfl (by first | exact .inl rfl | exact .inr rfl) (by first | exact .inl rfl | exact .inr rfl) sx_int)
    (ss_cons (ss_zip rfl (T.free 9 rfl) (sa_cons (sx_var (i := 5) rfl (by first | exact .inl rfl | exact .inr (.inl rfl) | exact .inr (.inr rfl))) (sa_cons (sx_ix hu1 (sx_var (i := 0) rfl (by first | exact .inl rfl | exact .inr (.inl rfl) | exact .inr (.inr rfl))) sx_int) sa_nil)) (pg_t rfl (pgs_v (i := 6) sc46.nd rfl (by first | exact .inl rfl | exact .inr rfl) (by first | exact .inl rfl | exact .inr rfl) (pgs_v (i := 7) sc46.nd rfl (by first | exact .inl rfl | exact .inr rfl) (by first | exact .inl rfl | exact .inr rfl) pgs_n))) (ss_cons (ss_if (sp_lt (sx_add (sx_var (i := 6) rfl (by first | exact .inl rfl | exact .inr (.inl rfl) | exact .inr (.inr rfl))) (sx_ix hu1 (sx_var (i := 7) rfl (by first | exact .inl rfl | exact .inr (.inl rfl) | exact .inr (.inr rfl))) sx_int)) (sx_var (i := 4) rfl (by first | exact .inl rfl | exact .inr (.inl rfl) | exact .inr (.inr rfl)))) (ss_one (ss_ret sx_bl)) ss_nil)
    (ss_cons (ss_if (PW.pt (sw_and (sp_val (sx_ix hu1 (sx_var (i := 7) rfl (by first | exact .inl rfl | exact .inr (.inl rfl) | exact .inr (.inr rfl))) sx_int)) (sw_one (sp_nin hu65 (sx_var (i := 4) rfl (by first | exact .inl rfl | exact .inr (.inl rfl) | exact .inr (.inr rfl))) (sx_lst (sa_cons (sx_add (sx_var (i := 6) rfl (by first | exact .inl rfl | exact .inr (.inl rfl) | exact .inr (.inr rfl))) (sx_ix hu1 (sx_var (i := 7) rfl (by first | exact .inl rfl | exact .inr (.inl rfl) | exact .inr (.inr rfl))) sx_int)) (sa_cons (sx_sub (sx_var (i := 6) rfl (by first | exact .inl rfl | exact .inr (.inl rfl) | exact .inr (.inr rfl))) (sx_ix hu1 (sx_var (i := 7) rfl (by first | exact .inl rfl | exact .inr (.inl rfl) | exact .inr (.inr rfl))) sx_int)) sa_nil))))))) (ss_one (ss_ret sx_bl)) ss_nil)
    (ss_one (ss_if (PW.pt (sw_and (sp_val (sx_ix hu1 (sx_var (i := 7) rfl (by first | exact .inl rfl | exact .inr (.inl rfl) | exact .inr (.inr rfl))) sx_int)) (sw_one (sp_eq hu64 (sx_add (sx_var (i := 6) rfl (by first | exact .inl rfl | exact .inr (.inl rfl) | exact .inr (.inr rfl))) (sx_ix hu1 (sx_var (i := 7) rfl (by first | exact .inl rfl | exact .inr (.inl rfl) | exact .inr (.inr rfl))) sx_int)) (sx_var (i := 4) rfl (by first | exact .inl rfl | exact .inr (.inl rfl) | exact .inr (.inr rfl))))))) (ss_one (ss_set sc46.nd rfl (by first | exact .inl rfl | exact .inr rfl) (by first | exact .inl rfl | exact .inr rfl) (sx_add (sx_var (i := 2) rfl (by first | exact .inl rfl | exact .inr (.inl rfl) | exact .inr (.inr rfl))) sx_int))) ss_nil)))))
    (ss_one (ss_ret (sx_or (sx_eq hu64 (sx_var (i := 4) rfl (by first | exact .inl rfl | exact .inr (.inl rfl) | exact .inr (.inr rfl))) sx_int) (sx_one (sx_eq hu64 (sx_var (i := 2) rfl (by first | exact .inl rfl | exact .inr (.inl rfl) | exact .inr (.inr rfl))) sx_int)))))))))))
theorem ok47 (T : Txt K mg ts fr ci cs fdv) (A : Oks P w K mg base tab ts fdv n) : FnOk P w K mg base CX0 (n + 1) (He.ga K "law") (fdv 47) ["_law_script"] (spV K (FAof K ts) (call tab (n + 1) 47)) := by
  refine def_ok (Φ := call tab n) (d := d_law_k40) (T.fn 47 rfl) sc47 rfl rfl fun cdv A0 outer s H E hr => ?_
  have AL := alls_of T A (ball T)
  have hu1 := hu_of hr
  have hu64 := hu64_of hr
  have hu65 := hu65_of hr
  exact (ss_cons (ss_range1 rfl (T.free 4 rfl) (sa_cons (sx_max2 rfl (T.free 2 rfl) sx_int (sx_min2 rfl (T.free 3 rfl) (sx_len rfl (T.free 0 rfl) (sx_var (i := 0) rfl (by first | exact .inl rfl | exact .inr (.inl rfl) | exact .inr (.inr rfl)))) sx_int)) sa_nil) (pg_v (i := 1) sc47.nd rfl (by first | exact .inl rfl | exact .inr rfl) (by first | exact .inl rfl | exact .inr rfl)) (ss_cons (ss_set sc47.nd rfl (by first | exact .inl rfl | exact .inr rfl) (by first | exact .inl rfl | exact .inr rfl) (sx_call (A 1 rfl) hr rfl (T.glo 1 rfl) (T.fn 1 rfl).kp (b1 T) (sg_cons (sx_var (i := 0) rfl (by first | exact .inl rfl | exact .inr (.inl rfl) | exact .inr (.inr rfl))) (sg_cons (sx_var (i := 1) rfl (by first | exact .inl rfl | exact .inr (.inl rfl) | exact .inr (.inr rfl))) sg_nil))))
    (ss_cons (ss_set sc47.nd rfl (by first | exact .inl rfl | exact .inr rfl) (by first | exact .inl rfl | exact .inr rfl) (sx_call (A 6 rfl) hr rfl (T.glo 6 rfl) (T.fn 6 rfl).kp (b6 T) (sg_io (i := 2) rfl (by first | exact .inl rfl | exact .inr (.inl rfl) | exact .inr (.inr rfl)) sg_nil)))
    (ss_cons (ss_if (sp_ne hu64 (sx_call (A 43 rfl) hr rfl (T.glo 43 rfl) (T.fn 43 rfl).kp (b43 T) (sg_cons (sx_tup (sa_cons (sx_str (by decide +kernel) (by decide +kernel)) sa_nil)) (sg_cons (sx_var (i := 3) rfl (by first | exact .inl rfl | exact .inr (.inl rfl) | exact .inr (.inr rfl))) sg_nil))) (sx_call (A 46 rfl) hr rfl (T.glo 46 rfl) (T.fn 46 rfl).kp (b46 T) (sg_cons (sx_var (i := 3) rfl (by first | exact .inl rfl | exact .inr (.inl rfl) | exact .inr (.inr rfl))) sg_nil))) (ss_one (ss_ret sx_bl)) ss_nil)
    (ss_cons (ss_if (sp_ne hu64 (sx_ix hu1 (sx_var (i := 3) rfl (by first | exact .inl rfl | exact .inr (.inl rfl) | exact .inr (.inr rfl))) sx_int) (sx_lst sa_nil)) (ss_cons (ss_setT (sx_ix hu1 (sx_ix hu1 (sx_var (i := 3) rfl (by first | exact .inl rfl | exact .inr (.inl rfl) | exact .inr (.inr rfl))) sx_int) (sx_neg sx_int)) (pg_t rfl (pgs_v (i := 5) sc47.nd rfl (by first | exact .inl rfl | exact .inr rfl) (by first | exact .inl rfl | exact .inr rfl) (pgs_v (i := 6) sc47.nd rfl (by first | exact .inl rfl | exact .inr rfl) (by first | exact .inl rfl | exact .inr rfl) (pgs_v (i := 7) sc47.nd rfl (by first | exact .inl rfl | exact .inr rfl) (by first | exact .inl rfl | exact .inr rfl) pgs_n)))))
    (ss_cons (ss_set sc47.nd rfl (by first | exact .inl rfl | exact .inr rfl) (by first | exact .inl rfl | exact .inr rfl) (sx_tup (sa_cons (sx_ix hu1 (sx_var (i := 3) rfl (by first | exact .inl rfl | exact .inr (.inl rfl) | exact .inr (.inr rfl))) sx_int) (sa_cons (sx_ix hu1 (sx_var (i := 3) rfl (by first | exact .inl rfl | exact .inr (.inl rfl) | exact .inr (.inr rfl))) sx_int) (sa_cons (sx_ix hu1 (sx_var (i := 3) rfl (by first | exact .inl rfl | exact .inr (.inl rfl) | exact .inr (.inr rfl))) sx_int) (sa_cons (sx_cat (sx_sl (sx_ix hu1 (sx_var (i := 3) rfl (by first | exact .inl rfl | exact .inr (.inl rfl) | exact .inr (.inr rfl))) sx_int) so_none (so_some (sx_neg sx_int))) (sx_lst (sa_cons (sx_tup (sa_cons (sx_add (sx_mod (sx_var (i := 5) rfl (by first | exact .inl rfl | exact .inr (.inl rfl) | exact .inr (.inr rfl))) sx_int) sx_int) (sa_cons (sx_var (i := 6) rfl (by first | exact .inl rfl | exact .inr (.inl rfl) | exact .inr (.inr rfl))) (sa_cons (sx_var (i := 7) rfl (by first | exact .inl rfl | exact .inr (.inl rfl) | exact .inr (.inr rfl))) sa_nil)))) sa_nil))) sa_nil))))))
    (ss_one (ss_if (sp_ne hu64 (sx_call (A 43 rfl) hr rfl (T.glo 43 rfl) (T.fn 43 rfl).kp (b43 T) (sg_cons (sx_tup (sa_cons (sx_str (by decide +kernel) (by decide +kernel)) sa_nil)) (sg_cons (sx_var (i := 4) rfl (by first | exact .inl rfl | exact .inr (.inl rfl) | exact .inr (.inr rfl))) sg_nil))) (sx_call (A 46 rfl) hr rfl (T.glo 46 rfl) (T.fn 46 rfl).kp (b46 T) (sg_cons (sx_var (i := 4) rfl (by first | exact .inl rfl | exact .inr (.inl rfl) | exact .inr (.inr rfl))) sg_nil))) (ss_one (ss_ret sx_bl)) ss_nil)))) ss_nil)
    (ss_cons (ss_set sc47.nd rfl (by first | exact .inl rfl | exact .inr rfl) (by first | exact .inl rfl | exact .inr rfl) (sx_tup (sa_cons (sx_ix hu1 (sx_var (i := 3) rfl (by first | exact .inl rfl | exact .inr (.inl rfl) | exact .inr (.inr rfl))) sx_int) (sa_cons (sx_mod (sx_add (sx_ix hu1 (sx_var (i := 3) rfl (by first | exact .inl rfl | exact .inr (.inl rfl) | exact .inr (.inr rfl))) sx_int) sx_int) sx_int) (sa_cons (sx_ix hu1 (sx_var (i := 3) rfl (by first | exact .inl rfl | exact .inr (.inl rfl) | exact .inr (.inr rfl))) sx_int) (sa_cons (sx_ix hu1 (sx_var (i := 3) rfl (by first | exact .inl rfl | exact .inr (.inl rfl) | exact .inr (.inr rfl))) sx_int) sa_nil))))))
    (ss_cons (ss_if (sp_ne hu64 (sx_call (A 43 rfl) hr rfl (T.glo 43 rfl) (T.fn 43 rfl).kp (b43 T) (sg_cons (sx_tup (sa_cons (sx_str (by decide +kernel) (by decide +kernel)) sa_nil)) (sg_cons (sx_var (i := 4) rfl (by first | exact .inl rfl | exact .inr (.inl rfl) | exact .inr (.inr rfl))) sg_nil))) (sx_call (A 46 rfl) hr rfl (T.glo 46 rfl) (T.fn 46 rfl).kp (b46 T) (sg_cons (sx_var (i := 4) rfl (by first | exact .inl rfl | exact .inr (.inl rfl) | exact .inr (.inr rfl))) sg_nil))) (ss_one (ss_ret sx_bl)) ss_nil)
    (ss_one (ss_if (sp_ne hu64 (sx_call (A 43 rfl) hr rfl (T.glo 43 rfl) (T.fn 43 rfl).kp (b43 T) (sg_cons (sx_tup (sa_cons (sx_str (by decide +kernel) (by decide +kernel)) sa_nil)) (sg_cons (sx_var (i := 3) rfl (by first | exact .inl rfl | exact .inr (.inl rfl) | exact .inr (.inr rfl))) sg_nil))) (sx_call (A 46 rfl) hr rfl (T.glo 46 rfl) (T.fn 46 rfl).kp (b46 T) (sg_cons (sx_var (i := 3) rfl (by first | exact .inl rfl | exact .inr (.inl rfl) | exact .inr (.inr rfl))) sg_nil))) (ss_one (ss_ret sx_bl)) ss_nil)))))))))
    (ss_one (ss_ret sx_bl)))
theorem oks (T : Txt K mg ts fr ci cs fdv) (n : Nat) : Oks P w K mg base tab ts fdv n := by
  induction n with
  | zero => exact oks0
  | succ n A =>
    intro x st ps i h
    match i, h with
    | 0, h => cases h; exact ok0 T A
    | 1, h => cases h; exact ok1 T A
    | 2, h => cases h; exact ok2 T A
    | 3, h => cases h; exact ok3 T A
    | 4, h => cases h; exact ok4 T A
    | 5, h => cases h; exact ok5 T A
    | 6, h => cases h; exact ok6 T A
    | 7, h => cases h; exact ok7 T A
    | 8, h => cases h; exact ok8 T A
    | 9, h => cases h; exact ok9 T A
    | 10, h => cases h; exact ok10 T A
    | 11, h => cases h; exact ok11 T A
    | 12, h => cases h; exact ok12 T A
    | 13, h => cases h; exact ok13 T A
    | 14, h => cases h; exact ok14 T A
    | 15, h => cases h; exact ok15 T A
    | 16, h => cases h; exact ok16 T A
    | 17, h => cases h; exact ok17 T A
    | 18, h => cases h; exact ok18 T A
    | 19, h => cases h; exact ok19 T A
    | 20, h => cases h; exact ok20 T A
    | 21, h => cases h; exact ok21 T A
    | 22, h => cases h; exact ok22 T A
    | 23, h => cases h; exact ok23 T A
    | 24, h => cases h; exact ok24 T A
    | 25, h => cases h; exact ok25 T A
    | 26, h => cases h; exact ok26 T A
    | 27, h => cases h; exact ok27 T A
    | 28, h => cases h; exact ok28 T A
    | 29, h => cases h; exact ok29 T A
    | 30, h => cases h; exact ok30 T A
    | 31, h => cases h; exact ok31 T A
    | 32, h => cases h; exact ok32 T A
    | 33, h => cases h; exact ok33 T A
    | 34, h => cases h; exact ok34 T A
    | 35, h => cases h; exact ok35 T A
    | 36, h => cases h; exact ok36 T A
    | 37, h => cases h; exact ok37 T A
    | 38, h => cases h; exact ok38 T A
    | 39, h => cases h; exact ok39 T A
    | 40, h => cases h; exact ok40 T A
    | 41, h => cases h; exact ok41 T A
    | 42, h => cases h; exact ok42 T A
    | 43, h => cases h; exact ok43 T A
    | 44, h => cases h; exact ok44 T A
    | 45, h => cases h; exact ok45 T A
    | 46, h => cases h; exact ok46 T A
    | 47, h => cases h; exact ok47 T A
    | k + 48, h => cases h
end
/-! ### the head -/
abbrev Rw : PySem.W.OpenRow := PySem.W.OpenLaw.row PySem.Challenge.rw_besidesay_k40_nearness_said
abbrev hk : PySem.W.Hook := He.hookD 4 (fas ts fr ci cs) (dfs ts)
def ob (s : PySem.W.SharedT) : He.AlD := He.obsDG 4 (fas ts fr ci cs) (dfs ts) (HandSHeadRun.getT s)
theorem ob_eq (s : PySem.W.SharedT) : ob s = hk.obs s.abs := He.obsDG_eq (HandSHeadRun.getT_eq s)
def lo0 : List PySem.Str := ["LONGEST", "WIDE", "is_mark", "number_in", "fields_of", "fields_beside", "goes_up", "below", "says_many", "HEAD", "threes_of", "are_threes_right", "leaders_among", "says_ball", "NEAR_BADGE", "pair_of", "pairs_of", "falls_to_one", "says_tree_by", "says_tree", "says_bare", "says_near", "says_odd", "says_sides", "is_two", "says_pairing", "MOST_ENTRIES", "is_form", "entry_of", "leads"]
def lo1 : List PySem.Str := ["is_entry_right", "is_dear", "says_cheapest", "LEAST_MANY", "says_round", "two_marks", "chosen_mark", "parted", "part_seen", "says_both", "says_either", "says", "_law_cell_at", "_law_pool", "_law_take", "_law_mark", "_law_odd_mark", "_law_end", "_law_pair_view", "_law_read", "_law_pairs", "_law_said", "_law_due"]
def loose : List PySem.Str := lo0 ++ lo1
theorem run (w : World) : HandSHeadRun.RunEq Rw (PySem.W.view Rw.prog [61]) hk ob 1640 loose w := by
  intro os
  kernel_rfl
end L_besidesay_k40_nearness_said
open PySem PySem.W PySem.Calls PyProof.Rows
theorem holds_of (hpure : ∀ ns : List Int, ns.length ≤ 63 → ∃ w os, BS.call BS.tab 60 47 [(.scr ns, .deep)] = some ((.bl true, w), os)) : PySem.Challenge.rw_besidesay_k40_nearness_said.Holds := by
  w_on; o_law
  refine HandSHeadRun.head_any (r := OpenLaw.row PySem.Challenge.rw_besidesay_k40_nearness_said) (q := view (OpenLaw.row PySem.Challenge.rw_besidesay_k40_nearness_said).prog [61]) (H := L_besidesay_k40_nearness_said.hk) (ob := L_besidesay_k40_nearness_said.ob) (M := 1640) (loose := L_besidesay_k40_nearness_said.loose) (d := HandSHeadRun.topDef (OpenLaw.row PySem.Challenge.rw_besidesay_k40_nearness_said).prog 61) (kwd := []) L_besidesay_k40_nearness_said.ob_eq
    (by kernel_rfl) (fun s => by kernel_rfl) L_besidesay_k40_nearness_said.run (by kernel_rfl) (by kernel_rfl) (by kernel_rfl) (by rfl) (by first | assumption | decide +kernel) (by decide +kernel) ⟨rfl, rfl, rfl, rfl, rfl, by decide +kernel⟩ ?hw ?hc
  case hw => w_witness2
  case hc =>
    refine L2.walk_ofE (l := PySem.Challenge.rw_besidesay_k40_nearness_said) (n := 63) (k := 60) (x := "_law_script") (CX := L2.CX0) rfl (by decide) (by kernel_rfl) ⟨rfl, by decide, by decide⟩ ?F (fun _ _ _ _ z => z)
    intro w mg fa h Y G hmg0
    obtain ⟨K, KX, c⟩ := Y
    have hmg : mg ("law" : PySem.Str) = some (.ref fa) := by
      have e : (HandSHeadRun.topDef (OpenLaw.row PySem.Challenge.rw_besidesay_k40_nearness_said).prog 61).name = ("law" : PySem.Str) := by kernel_rfl
      rw [← e]
      exact hmg0
    obtain ⟨fdv, T⟩ := BS.Txt.of KX G c
    have e := hmg.symm.trans (T.glo (st := L_besidesay_k40_nearness_said.s47) (ps := ["_law_script"]) 47 rfl)
    cases e
    have b := L2.FunD.bindsA (ps := ["_law_script"]) (T.fn (st := L_besidesay_k40_nearness_said.s47) (ps := ["_law_script"]) 47 rfl) fun _ _ _ _ _ _ us hl => match us, hl with | [_], _ => rfl
    exact ⟨K, fdv 47, BS.spV K (BS.FAof K L_besidesay_k40_nearness_said.ts) (BS.call BS.tab 60 47), KX, fun s v => b s [v] rfl, fun H a ns hl _ hS => BS.law_sp (hpure ns hl) hS, fun base _ _ => L_besidesay_k40_nearness_said.oks T 60 47 rfl⟩

set_option maxRecDepth 100000
set_option maxHeartbeats 4000000
theorem PySem.Challenge.cw_besidesay_k40_nearness_said_holds : PySem.Challenge.rw_besidesay_k40_nearness_said.Holds := by
  refine holds_of fun ns h => ?_
  obtain ⟨r, os, e, rfl⟩ := BS.L_k40 (n := 52) h
  exact ⟨_, os, e⟩
