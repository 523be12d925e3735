import PyProof.Rows.All
import Wide.All
import OpenK.AllK
import Wide.FinOn
import HandS.ForMost
import HandS.Deep
import HandS.Style
import HandS.SetFor
import HandS.Zip
import HandS.TryOnly
import KE.SortKeyed
import HandS.Head0
import HandS.Head1
import HandS.Head2
import HandS.HeadEnd
import HandS.HeadHook1
import HandS.ExcIs
import HandS.Wide
import HandS.WideBits
import PyProof.Rows.BitMore
import HandS.IsInst
import KE.KStrBytes
import HandS.Walk
import HandS.More
import HandS.HeadHook2
import PyProof.IsRules
import HandS.Dict
import HandS.Conv
import HandS.SortInts
import KE.KEqNest
import HandS.List
import HandS.TupSets
import HandS.ExcOwn
import HandS.Text
import HandS.TupAny
import HandS.Finally
import KE.KDictDisplayH
import PyProof.DictTable
import KE.GoesMore
import PyProof.EnumMake
import HandS.Strs
import HandS.SortKw
import KE.DataMinMax
import KE.DataFind
import KE.DataEq
import HandS.Codes
import PySem.Challenge.RW_besidesay_k13_texts_that_are_none
set_option Elab.async false
set_option linter.all false
set_option maxRecDepth 100000
/-! The evaluator: own data, own syntax, value semantics with an ownership flag. -/
namespace BS
open PySem L2

/-- who may change a value's containers: nobody any more; the outer one alone is our own; all are our own -/
inductive Ow where
  | sh | top | deep
  deriving DecidableEq

inductive D where
  | non
  | bl (b : Bool)
  | int (i : Int)
  | str (s : Str)
  | fn (g : Nat)
  | scr (ns : List Int)
  | tup (xs : List D)
  | lst (xs : List D)
  | dic (t : Bool) (kvs : List (D × D))

abbrev Val := D × Ow
/-- errors: a class (its place in the list of all classes), and what its place is: none 0, None 1, n + 2 -/
abbrev Exn := Nat × Nat
abbrev EB : Nat := 1000000
/-- where a call's raising is asked -/
abbrev RZ : Nat := 100000
def errD (x : Exn) : D := .fn (EB + (x.1 + 16 * x.2))
def exnOf (g : Nat) : Exn := ((g - EB) % 16, (g - EB) / 16)
abbrev Sl := L2.St
abbrev En := List (Option Val)

mutual
@[simp] def plain : D → Bool
  | .non => true
  | .bl _ => true
  | .int _ => true
  | .str _ => true
  | .fn _ => true
  | .scr _ => true
  | .tup xs => plains xs
  | .lst _ => false
  | .dic _ _ => false
@[simp] def plains : List D → Bool
  | [] => true
  | d :: ds => plain d && plains ds
end
mutual
@[simp] def flat : D → Bool
  | .non => true
  | .bl _ => true
  | .int _ => true
  | .str _ => true
  | .tup xs => flats xs
  | _ => false
@[simp] def flats : List D → Bool
  | [] => true
  | d :: ds => flat d && flats ds
end
/- no def, no script within -/
mutual
def nofs : D → Bool
  | .fn _ => false
  | .scr _ => false
  | .tup xs => nofss xs
  | .lst xs => nofss xs
  | .dic _ kvs => nofsk kvs
  | _ => true
def nofss : List D → Bool
  | [] => true
  | d :: ds => nofs d && nofss ds
def nofsk : List (D × D) → Bool
  | [] => true
  | (_, d) :: ds => nofs d && nofsk ds
end
def vals : List (D × D) → List D
  | [] => []
  | (_, v) :: r => v :: vals r
/-- no container stands within but the outer one -/
def kplain : D → Bool
  | .tup xs => plains xs
  | .lst xs => plains xs
  | .dic _ kvs => plains (vals kvs)
  | _ => true
@[simp] theorem kplain_tup (xs : List D) : kplain (.tup xs) = plains xs := rfl
@[simp] theorem kplain_lst (xs : List D) : kplain (.lst xs) = plains xs := rfl
@[simp] theorem kplain_dic (t : Bool) (kvs : List (D × D)) : kplain (.dic t kvs) = plains (vals kvs) := rfl
@[simp] theorem kplain_str (s : Str) : kplain (.str s) = true := rfl
@[simp] theorem kplain_int (s : Int) : kplain (.int s) = true := rfl
@[simp] theorem kplain_scr (s : List Int) : kplain (.scr s) = true := rfl
@[simp] def kid : Ow → Ow
  | .deep => .deep
  | _ => .sh
/-- a value with its flag -/
def vl (d : D) (w : Ow) : Val := if plain d then (d, .deep) else (d, w)
/- keys -/
mutual
def keq : D → D → Bool
  | .int i, .int j => decide (i = j)
  | .str s, .str t => decide (s = t)
  | .tup xs, .tup ys => keqs xs ys
  | _, _ => false
def keqs : List D → List D → Bool
  | [], [] => true
  | x :: xs, y :: ys => keq x y && keqs xs ys
  | _, _ => false
end
def dget (kvs : List (D × D)) (k : D) : Option D :=
  match kvs with
  | [] => none
  | (a, v) :: r => if keq a k then some v else dget r k
def dhas (kvs : List (D × D)) (k : D) : Bool := kvs.any fun p => keq p.1 k
def dput (kvs : List (D × D)) (k v : D) : List (D × D) :=
  if dhas kvs k then kvs.map (fun p => if keq p.1 k then (p.1, v) else p) else kvs ++ [(k, v)]
def keyD : D → Option Key
  | .int i => some (.inl i)
  | .str s => some (.inr s)
  | _ => none
def keyL : List D → Option (List Key)
  | [] => some []
  | d :: r => match keyD d, keyL r with
    | some k, some ks => some (k :: ks)
    | _, _ => none
def keyT : D → Option (List Key)
  | .tup ds => keyL ds
  | _ => none
def keysTL : List D → Option (List (List Key))
  | [] => some []
  | d :: r => match keyT d, keysTL r with
    | some k, some ks => some (k :: ks)
    | _, _ => none
def keyOk (t : Bool) (k : D) : Bool := if t then (keyT k).isSome else (keyD k).isSome
def item : D → D → Option D
  | .lst xs, .int i => atI xs i
  | .tup xs, .int i => atI xs i
  | .scr ns, .int i => (atI ns i).map .int
  | .str s, .int i => (atI s.cps.toList i).map fun c => .str ⟨#[c]⟩
  | .dic t kvs, k => if keyOk t k then dget kvs k else none
  | _, _ => none

/- Python's == -/
mutual
def deq : D → D → Bool
  | .non, .non => true
  | .bl a, .bl b => a == b
  | .int a, .int b => a == b
  | .bl a, .int b => (if a then 1 else 0) == b
  | .int a, .bl b => a == (if b then 1 else 0)
  | .str a, .str b => decide (a = b)
  | .lst xs, .lst ys => deqs xs ys
  | .tup xs, .tup ys => deqs xs ys
  | _, _ => false
def deqs : List D → List D → Bool
  | [], [] => true
  | x :: xs, y :: ys => deq x y && deqs xs ys
  | _, _ => false
end
/- .. of dicts, too -/
mutual
def deqW : D → D → Bool
  | .lst xs, .lst ys => deqsW xs ys
  | .tup xs, .tup ys => deqsW xs ys
  | .dic false a, .dic false b => decide (a.length = b.length) && deqK a b
  | a, b => deq a b
def deqsW : List D → List D → Bool
  | [], [] => true
  | x :: xs, y :: ys => deqW x y && deqsW xs ys
  | _, _ => false
def deqK : List (D × D) → List (D × D) → Bool
  | [], _ => true
  | (k, v) :: r, b => (match dget b k with
    | some y => deqW v y
    | none => false) && deqK r b
end
/- what == is told of here: nothing but these, to the depth n -/
mutual
def shp : Nat → D → Bool
  | _, .non => true
  | _, .bl _ => true
  | _, .int _ => true
  | _, .str _ => true
  | n + 1, .lst xs => shps n xs
  | n + 1, .tup xs => shps n xs
  | _, _ => false
def shps : Nat → List D → Bool
  | _, [] => true
  | n, d :: ds => shp n d && shps n ds
end
mutual
def shq : Nat → D → D → Bool
  | n + 1, .lst xs, .lst ys => xs.length != ys.length || shqs n xs ys
  | n + 1, .tup xs, .tup ys => shqs n xs ys
  | n + 1, .dic false a, .dic false b => shqK n a b
  | n, d, e => shp n d && shp n e
def shqs : Nat → List D → List D → Bool
  | n, x :: xs, y :: ys => shq n x y && shqs n xs ys
  | _, _, _ => true
def shqK : Nat → List (D × D) → List (D × D) → Bool
  | _, [], _ => true
  | n, (k, v) :: r, b => (match dget b k with
    | some y => shq n v y
    | none => true) && shqK n r b
end
/- own data as the library's -/
mutual
def toPD : D → PyData
  | .bl b => .bool b
  | .int i => .int i
  | .str s => .str s
  | .lst xs => .list (toPDs xs)
  | .tup xs => .tuple (toPDs xs)
  | _ => .none
def toPDs : List D → List PyData
  | [] => []
  | d :: ds => toPD d :: toPDs ds
end
/- what sorted(..) is told of here, beside ints: nothing but alike data -/
def isTup1 : D → Bool
  | .tup (_ :: _) => true
  | _ => false
def noTup : D → Bool
  | .bl _ => true
  | .int _ => true
  | .str _ => true
  | .lst _ => true
  | _ => false
def srtOk (xs : List D) : Bool := xs.all (fun a => shp 20 a && xs.all fun b => PySem.W.alike (toPD a) (toPD b)) && (xs.all isTup1 || xs.all noTup)
def leD : D → D → Bool := PySem.W.dataLe false toPD
@[simp] def scalar : D → Bool
  | .non => true
  | .bl _ => true
  | .int _ => true
  | .str _ => true
  | _ => false
def scalars : List D → Bool
  | [] => true
  | d :: ds => scalar d && scalars ds

inductive Ty where
  | int | str | bool | list | tuple | dict
  deriving DecidableEq
inductive Op1 where
  | isC (cs : List Nat) | place | not | neg | len | lset | int | str | abs | isN | isNN | sum | all | any | isi (t : Ty) | max | min | tru | isB (b : Bool) | upper | starts (s : Str) | cntS (s : Str) | lsetT | maxd (i : Int) | mind (i : Int)
inductive Op2 where
  | add | sub | mul | fdiv | mod | pow | shl | shr | band | bor | eqd | ned | eq | ne | lt | le | gt | ge | In | NotIn | max | min | join | get | index | count
inductive Op3 where
  | getd
/-- what makes a new object of what stands in another one -/
inductive OpP where
  | list | tuple | dict | sorted | rev | part (s : Str) | sset | ssetT
inductive Ik where
  | of | keys | rng | enu | zip | rev | enuS
inductive Mt where
  | append | pop | pop1 | insert | extend | clear | reverse | remove

inductive Tg where
  | v (i : Nat)
  | t (ts : List Nat)

inductive Ex where
  | int (i : Int)
  | str (s : Str)
  | bl (b : Bool)
  | non
  | glo (d : D)
  | var (i : Nat)
  | io (i : Nat)
  | mv (i : Nat)
  | ix (a k : Ex)
  | sl (a lo hi : Ex)
  | op1 (o : Op1) (a : Ex)
  | op2 (o : Op2) (a b : Ex)
  | op3 (o : Op3) (a b c : Ex)
  | getS (a b c : Ex)
  | opP (o : OpP) (a : Ex)
  | cat (a b : Ex)
  | catT (a b : Ex)
  | rep (a b : Ex)
  | and (a b : Ex)
  | or (a b : Ex)
  | ife (c a b : Ex)
  | tup (es : List Ex)
  | lst (es : List Ex)
  | dct0 (t : Bool)
  | dct (es : List Ex)
  | dctT (es : List Ex)
  | inG (neg : Bool) (e : Ex) (xs : List Str)
  | call (g : Nat) (es : List Ex)
  | callv (f : Ex) (es : List Ex)
  | mut (m : Mt) (i : Nat) (es : List Ex)
  | mutP (m : Mt) (p : Ex) (es : List Ex)
  | clrP (p : Ex)
  | comp (shr : Bool) (elt : Ex) (tg : Tg) (k : Ik) (es : List Ex) (cond : Ex)
  | comph (elt : Ex) (tg : Tg) (i : Nat) (cond : Ex)
  | brw (is : List Nat) (e : Ex)
  | dpop (i : Nat) (k : Ex)
  | dupd (i : Nat) (es : List Ex)
  | anyT (j i : Nat) (cond : Ex)
  | slk (a lo hi : Ex)
  | shv (i : Nat)
  | shp (i : Nat)

inductive Ss where
  | skip
  | seq (a b : Ss)
  | set (tg : Tg) (e : Ex)
  | setIx (i : Nat) (k e : Ex)
  | setP (p k e : Ex)
  | expr (e : Ex)
  | ite (c : Ex) (a b : Ss)
  | for_ (tg : Tg) (k : Ik) (es : List Ex) (body : Ss)
  | whl (c : Ex) (body : Ss)
  | ret (e : Ex)
  | retn
  | rs (c : Nat)
  | rsP (c : Nat) (e : Ex)
  | xc (g : Nat) (es : List Ex)
  | sc (i : Nat) (g : Nat) (es : List Ex)
  | ic (g : Nat) (es : List Ex) (a b : Ss)
  | try_ (c : Nat) (j i : Nat) (body : Ss)
  | tryU (k : Nat) (j i : Nat) (z : Str) (body : Ss)
  | apw (j i : Nat) (s : Ss)
  | popS (i : Nat)
  | swp (i : Nat) (a b : Ex)
  | forT (is : List Nat) (e : Ex) (b : Ss)
  | apN (i j : Nat) (k : Int)
  | popK (i l : Nat)

@[simp] def isPl : Ex → Bool
  | .var _ => true
  | .ix a _ => isPl a
  | _ => false
@[simp] def root : Ex → Nat
  | .var i => i
  | .ix a _ => root a
  | _ => 0
/- slots whose objects or flags an expression may change -/
mutual
@[simp] def wr : Ex → List Nat
  | .io i => [i]
  | .mv i => [i]
  | .ix a k => wr a ++ wr k
  | .sl a b c => (if isPl a then [root a] else []) ++ (wr a ++ (wr b ++ wr c))
  | .op1 _ a => wr a
  | .op2 _ a b => wr a ++ wr b
  | .op3 _ a b c => wr a ++ (wr b ++ wr c)
  | .getS a b c => wr a ++ (wr b ++ ((if isPl c then [root c] else []) ++ wr c))
  | .opP _ a => (if isPl a then [root a] else []) ++ wr a
  | .cat a b => ((if isPl a then [root a] else []) ++ wr a) ++ ((if isPl b then [root b] else []) ++ wr b)
  | .catT a b => wr a ++ wr b
  | .rep a b => wr a ++ wr b
  | .and a b => wr a ++ wr b
  | .or a b => wr a ++ wr b
  | .ife c a b => wr c ++ (((if isPl a then [root a] else []) ++ wr a) ++ ((if isPl b then [root b] else []) ++ wr b))
  | .tup es => wrs es
  | .lst es => wrs es
  | .dct es => wrs es
  | .dctT es => wrs es
  | .inG _ e _ => wr e
  | .call _ es => wrs es
  | .callv f es => wr f ++ wrs es
  | .mut _ i es => i :: wrs es
  | .mutP _ p es => root p :: (wr p ++ wrs es)
  | .clrP p => root p :: wr p
  | .comp _ elt tg _ es cond => (match tg with | .v i => [i] | .t is => is) ++ (((if isPl elt then [root elt] else []) ++ wr elt) ++ (wrs es ++ wr cond))
  | .brw is e => is ++ wr e
  | .dpop i k => i :: wr k
  | .dupd i es => i :: wrs es
  | .anyT j i cond => i :: (j :: wr cond)
  | .slk a b c => wr a ++ (wr b ++ wr c)
  | .comph elt tg i cond => i :: ((match tg with | .v i => [i] | .t is => is) ++ (((if isPl elt then [root elt] else []) ++ wr elt) ++ wr cond))
  | _ => []
@[simp] def wrs : List Ex → List Nat
  | [] => []
  | e :: es => ((if isPl e then [root e] else []) ++ wr e) ++ wrs es
end
/-- .. with its value going elsewhere -/
@[simp] def wrx (e : Ex) : List Nat := (if isPl e then [root e] else []) ++ wr e
@[simp] def tgs : Tg → List Nat
  | .v i => [i]
  | .t ts => ts
@[simp] def wrS : Ss → List Nat
  | .skip => []
  | .seq a b => wrS a ++ wrS b
  | .set tg e => tgs tg ++ wrx e
  | .setIx i k e => i :: (wr k ++ wrx e)
  | .setP p k e => root p :: (wr p ++ (wr k ++ wrx e))
  | .expr e => wr e
  | .ite c a b => wr c ++ (wrS a ++ wrS b)
  | .for_ tg _ es body => tgs tg ++ (wrs es ++ wrS body)
  | .whl c body => wr c ++ wrS body
  | .ret e => wrx e
  | .retn => []
  | .rs _ => []
  | .rsP _ e => wr e
  | .xc _ es => wrs es
  | .sc i _ es => i :: wrs es
  | .ic _ es a b => wrs es ++ (wrS a ++ wrS b)
  | .try_ _ j i body => j :: (i :: wrS body)
  | .tryU _ j i _ body => j :: (i :: wrS body)
  | .apw j i s => j :: (i :: wrS s)
  | .popS i => [i]
  | .swp i a b => i :: (wr (.tup [.ix (.var i) b, .ix (.var i) a]) ++ (wr a ++ wr b))
  | .forT is e b => root e :: (is ++ wrS b)
  | .apN i j _ => [i, j]
  | .popK i _ => [i]
/-- slots that a statement stores -/
@[simp] def asg : Ss → List Nat
  | .seq a b => asg a ++ asg b
  | .set tg _ => tgs tg
  | .ite _ a b => asg a ++ asg b
  | .for_ tg _ _ body => tgs tg ++ asg body
  | .whl _ body => asg body
  | .sc i _ _ => [i]
  | .ic _ _ a b => asg a ++ asg b
  | .try_ _ j i body => j :: (i :: asg body)
  | .tryU _ j i _ body => j :: (i :: asg body)
  | .apw _ _ s => asg s
  | .forT is _ b => is ++ asg b
  | .apN _ j _ => [j]
  | _ => []

/-- a root's flag when a part of it goes elsewhere -/
@[simp] def down : D → Ow → Ow
  | .lst _, .deep => .top
  | .dic _ _, .deep => .top
  | .lst _, .top => .top
  | .dic _ _, .top => .top
  | _, _ => .sh
def shRoot : Ex → En → En
  | .var i, E => match E[i]? with
    | some (some (d, _)) => E.set i (some (d, .sh))
    | _ => E
  | .ix a _, E => match E[root a]? with
    | some (some (d, w)) => E.set (root a) (some (d, down d w))
    | _ => E
  | _, E => E
/-- a place's value goes elsewhere -/
def esc (e : Ex) (x : Val) (E : En) : Val × En :=
  if isPl e && !plain x.1 then ((x.1, .sh), shRoot e E) else (x, E)
/-- a place's value is held while other things are reckoned that change w -/
def brw (e : Ex) (w : List Nat) (x : Val) : Bool := !isPl e || plain x.1 || !w.contains (root e)
/-- parts of a place's value go elsewhere -/
def kesc (e : Ex) (x : Val) (E : En) : Val × En :=
  if isPl e && !kplain x.1 then ((x.1, .sh), shRoot e E) else (x, E)

abbrev line : Nat := 16777216
/-- no def stands where the errors are -/
class SmallΦ (Φ : Nat → List Val → Option (Val × List (Option Val))) : Prop where
  no : ∀ g vs, EB ≤ g → Φ g vs = none

def allDeep : List Val → Bool
  | [] => true
  | x :: xs => (plain x.1 || decide (x.2 = .deep)) && allDeep xs
def ds : List Val → List D
  | [] => []
  | x :: xs => x.1 :: ds xs
def mkTup (xs : List Val) : Val := vl (.tup (ds xs)) (if allDeep xs then .deep else .sh)
def mkLst (xs : List Val) : Val := (.lst (ds xs), if allDeep xs then .deep else .top)
/-- a new list of parts of another value -/
def newLst (xs : List D) (w : Ow) : Val := (.lst xs, if plains xs then .deep else if w = .deep then .deep else .top)

/-- keys and values by turns -/
def pairUp : List D → Option (List (D × D))
  | [] => some []
  | k :: v :: r => (pairUp r).map ((k, v) :: ·)
  | _ => none
def dputs (kvs more : List (D × D)) : List (D × D) := more.foldl (fun acc p => dput acc p.1 p.2) kvs
def isOwnDic (o : Option (Option Val)) : Bool := match o with
  | some (some (.dic false _, .deep)) => true
  | some (some (.dic false _, .top)) => true
  | _ => false
def keysOk (kvs : List (D × D)) : Bool := match keyL (kvs.map (·.1)) with
  | some ks => decide ks.Nodup && decide (kvs.length ≤ 15)
  | none => false
def keysOkT (kvs : List (D × D)) : Bool := match keysTL (kvs.map (·.1)) with
  | some ks => decide ks.Nodup && decide (kvs.length ≤ 15)
  | none => false
def lenD : D → Option Int
  | .str s => some s.length
  | .lst xs => some xs.length
  | .tup xs => some xs.length
  | .scr xs => some xs.length
  | .dic false kvs => some kvs.length
  | _ => none
def sumD : List D → Option Int
  | [] => some 0
  | .int i :: r => (sumD r).map (i + ·)
  | _ :: _ => none
def blsOf : List D → Option (List Bool)
  | [] => some []
  | .bl b :: r => (blsOf r).map (b :: ·)
  | _ :: _ => none
def intsOf : List D → Option (List Int)
  | [] => some []
  | .int i :: r => (intsOf r).map (i :: ·)
  | _ :: _ => none
def strsOf : List D → Option (List Str)
  | [] => some []
  | .str i :: r => (strsOf r).map (i :: ·)
  | _ :: _ => none
def dedup (ns : List Int) : List Int := ns.foldl (fun acc x => if acc.any (· == x) then acc else acc ++ [x]) []
/-- pairs of whole numbers, sorted, each once -/
def pairsI : List D → Option (List (Int × Int))
  | [] => some []
  | .tup [.int a, .int b] :: r => (pairsI r).map ((a, b) :: ·)
  | _ :: _ => none
def dedP (ps : List (Int × Int)) : List (Int × Int) := ps.foldl (fun acc x => if x ∈ acc then acc else acc ++ [x]) []
def leP (p q : Int × Int) : Bool := decide (p.1 * 4096 + p.2 ≤ q.1 * 4096 + q.2)
def inP (ps : List (Int × Int)) : Bool := ps.all fun p => decide (0 ≤ p.1 ∧ p.1 < 4096 ∧ 0 ≤ p.2 ∧ p.2 < 4096)
def ssetTD : D → Option D
  | .lst xs => match pairsI xs with
    | some ps => if ps.length < 64 ∧ inP ps = true then some (.lst (((dedP ps).mergeSort leP).map fun p => .tup [.int p.1, .int p.2])) else none
    | none => none
  | _ => none
/-- the pairs that a dict is made of -/
def pairsD : List D → Option (List (D × D))
  | [] => some []
  | .tup [k, v] :: r => (pairsD r).map ((k, v) :: ·)
  | _ :: _ => none
def keysNd (kvs : List (D × D)) : Bool := match keyL (kvs.map (·.1)) with
  | some ks => decide ks.Nodup
  | none => false
def newDic (kvs : List (D × D)) (w : Ow) : Val := (.dic false kvs, if plains (vals kvs) then .deep else if w = .deep then .deep else .top)
/-- rising -/
def sortI (ns : List Int) : List Int := ns.mergeSort
def keysI : List (D × D) → Option (List Int)
  | [] => some []
  | (.int i, _) :: r => (keysI r).map (i :: ·)
  | _ :: _ => none
def tyOf : Ty → D → Bool
  | .int, .int _ => true
  | .int, .bl _ => true
  | .bool, .bl _ => true
  | .str, .str _ => true
  | .list, .lst _ => true
  | .tuple, .tup _ => true
  | .dict, .dic _ _ => true
  | _, _ => false
def isNon : D → Bool
  | .non => true
  | _ => false
/-- isinstance(.., own classes): 0 is the class of all errors of ours, 99 is ValueError -/
def isCD (cs : List Nat) : D → Option Bool
  | .fn g => if EB ≤ g ∧ (exnOf g).2 = 0 then some (cs.any fun c => c == 0 || c == 99 || c == (exnOf g).1) else none
  | .non => some false
  | .bl _ => some false
  | .int _ => some false
  | .str _ => some false
  | .lst _ => some false
  | .tup _ => some false
  | .dic false _ => some false
  | _ => none
def placeD' : D → Option D
  | .fn g => if EB ≤ g then (match (exnOf g).2 with
    | 0 => none
    | 1 => some .non
    | n + 2 => some (.int n)) else none
  | _ => none
def strLn (s : Str) : Bool := decide (s.length ≤ line) && PyData.strOk s
def prtnD (z : Str) : D → Option D
  | .str s => if (z.length == 0) = false ∧ s.length ≤ line ∧ strLn (Txt.partition s z).1 = true ∧ strLn (Txt.partition s z).2.1 = true ∧ strLn (Txt.partition s z).2.2 = true then some (.tup [.str (Txt.partition s z).1, .str (Txt.partition s z).2.1, .str (Txt.partition s z).2.2]) else none
  | _ => none
def catTD : D → D → Option D
  | .tup xs, .tup ys => if xs.length + ys.length ≤ line ∧ plains xs = true ∧ plains ys = true then some (.tup (xs ++ ys)) else none
  | _, _ => none
def app1 : Op1 → D → Option D
  | .isC cs, d => (isCD cs d).map .bl
  | .place, d => placeD' d
  | .not, .bl b => some (.bl (!b))
  | .neg, .int i => some (.int (-i))
  | .len, d => (lenD d).map .int
  | .int, .int i => some (.int i)
  | .int, .bl b => some (.int (if b then 1 else 0))
  | .int, .str s => if s.length ≤ 640 then (PySem.intText? s).map .int else none
  | .max, .lst xs => match intsOf xs with
    | some (n :: ns) => some (.int (ns.foldl max n))
    | _ => none
  | .min, .lst xs => match intsOf xs with
    | some (n :: ns) => some (.int (ns.foldl min n))
    | _ => none
  | .maxd i, .lst xs => (intsOf xs).map fun l => .int (match l with
    | [] => i
    | n :: ns => ns.foldl max n)
  | .mind i, .lst xs => (intsOf xs).map fun l => .int (match l with
    | [] => i
    | n :: ns => ns.foldl min n)
  | .max, .dic false kvs => match keysI kvs with
    | some (n :: ns) => some (.int (ns.foldl max n))
    | _ => none
  | .min, .dic false kvs => match keysI kvs with
    | some (n :: ns) => some (.int (ns.foldl min n))
    | _ => none
  | .str, .int i => if i.natAbs.log2 < 1920 then some (.str (toString i)) else none
  | .abs, .int i => some (.int (if i < 0 then -i else i))
  | .isN, d => some (.bl (isNon d))
  | .isNN, d => some (.bl (!isNon d))
  | .isi t, .fn _ => none
  | .isi t, .dic true _ => none
  | .isi t, .scr _ => none
  | .isi t, d => some (.bl (tyOf t d))
  | .isB b, .bl c => some (.bl (c == b))
  | .isB _, .non => some (.bl false)
  | .isB _, .int _ => some (.bl false)
  | .isB _, .str _ => some (.bl false)
  | .isB _, .lst _ => some (.bl false)
  | .isB _, .tup _ => some (.bl false)
  | .isB _, .dic _ _ => some (.bl false)
  | .sum, .lst xs => (sumD xs).map .int
  | .all, .lst xs => (blsOf xs).map fun bs => .bl (bs.all id)
  | .any, .lst xs => (blsOf xs).map fun bs => .bl (bs.any id)
  | .lset, .lst xs => match intsOf xs with
    | some ns => if ns.length ≤ 4000 then some (.int (dedup ns).length) else none
    | none => none
  | .tru, .bl b => some (.bl b)
  | .tru, .int i => some (.bl (i != 0))
  | .tru, .non => some (.bl false)
  | .tru, .lst xs => some (.bl (!xs.isEmpty))
  | .tru, .tup xs => some (.bl (!xs.isEmpty))
  | .lsetT, .tup xs => match intsOf xs with
    | some ns => if ns.length ≤ 4000 then some (.int (dedup ns).length) else none
    | none => none
  | .upper, .str s => if s.length ≤ 5592405 ∧ strLn (Txt.upper s) = true then some (.str (Txt.upper s)) else none
  | .starts z, .str s => some (.bl (Txt.startswith s z))
  | .cntS z, .str s => some (.int (Txt.count s z))
  | _, _ => none
def srep (s : Str) (k : Int) : Str := if k < 1 then Str.empty else if (k == 1 || s.length == 0) = true then s else ⟨(List.replicate k.toNat s.cps).foldl (· ++ ·) #[]⟩
def app2 : Op2 → D → D → Option D
  | .add, .int i, .int j => some (.int (i + j))
  | .add, .str i, .str j => if i.length + j.length ≤ line then some (.str (i ++ j)) else none
  | .sub, .int i, .int j => some (.int (i - j))
  | .mul, .int i, .int j => if (-(2 ^ 64) < i ∧ i < 2 ^ 64) ∨ (-(2 ^ 64) < j ∧ j < 2 ^ 64) then some (.int (i * j)) else none
  | .mul, .str s, .int k => if 0 ≤ k ∧ k < 2 ^ 62 ∧ s.length * k.toNat ≤ line then some (.str (srep s k)) else none
  | .fdiv, .int i, .int j => if 0 < j ∧ j < 1073741824 then some (.int (i / j)) else none
  | .mod, .int i, .int j => if 0 < j then some (.int (i % j)) else none
  | .pow, .int i, .int j => if 0 ≤ j ∧ j ≤ 1000000 ∧ i.natAbs < 2 ^ 64 then some (.int (i ^ j.toNat)) else none
  | .shl, .int i, .int j => if 0 ≤ j ∧ j ≤ 1000000 ∧ i.natAbs < 2 ^ 64 then some (.int (i * 2 ^ j.toNat)) else none
  | .shr, .int i, .int j => if 0 ≤ j then some (.int (i / 2 ^ j.toNat)) else none
  | .band, .int i, .int j => if j = 1 then some (.int (i % 2)) else none
  | .bor, .int i, .int j => if 0 ≤ i ∧ 0 ≤ j then some (.int ((i.toNat ||| j.toNat : Nat) : Int)) else none
  | .eqd, a, b => if shq 30 a b then some (.bl (deqW a b)) else none
  | .ned, a, b => if shq 30 a b then some (.bl (!deqW a b)) else none
  | .eq, a, b => if shp 30 a && shp 30 b then some (.bl (deq a b)) else none
  | .ne, a, b => if shp 30 a && shp 30 b then some (.bl (!deq a b)) else none
  | .lt, .int i, .int j => some (.bl (decide (i < j)))
  | .le, .int i, .int j => some (.bl (decide (i ≤ j)))
  | .gt, .int i, .int j => some (.bl (decide (j < i)))
  | .ge, .int i, .int j => some (.bl (decide (j ≤ i)))
  | .In, a, .lst xs => if scalar a && scalars xs || shp 30 a && shps 29 xs then some (.bl (xs.any fun y => deq y a)) else none
  | .In, a, .tup xs => if scalar a && scalars xs then some (.bl (xs.any fun y => deq y a)) else none
  | .In, .str s, .str z => match s.cps.toList with
    | [c] => some (.bl (decide (c ∈ z.cps.toList)))
    | _ => none
  | .In, a, .dic t kvs => if keyOk t a then some (.bl (dhas kvs a)) else none
  | .NotIn, a, .lst xs => if scalar a && scalars xs || shp 30 a && shps 29 xs then some (.bl (!xs.any fun y => deq y a)) else none
  | .NotIn, a, .tup xs => if scalar a && scalars xs then some (.bl (!xs.any fun y => deq y a)) else none
  | .NotIn, .str s, .str z => match s.cps.toList with
    | [c] => some (.bl (!decide (c ∈ z.cps.toList)))
    | _ => none
  | .NotIn, a, .dic t kvs => if keyOk t a then some (.bl (!dhas kvs a)) else none
  | .join, .str a, .lst xs => match strsOf xs with
    | some ys => if (ys.map (·.length)).sum + ys.length * a.length ≤ line then some (.str (Txt.join a ys)) else none
    | none => none
  | .count, .lst xs, .int i => (intsOf xs).map fun l => .int (l.count i : Nat)
  | .get, .dic t kvs, k => if keyOk t k then (match dget kvs k with
    | none => some .non
    | some v => if plain v then some v else none) else none
  | .index, .lst xs, .int i => match intsOf xs with
    | some l => if i ∈ l then some (.int (l.idxOf i : Nat)) else none
    | none => none
  | .max, .int i, .int j => some (.int (if j > i then j else i))
  | .min, .int i, .int j => some (.int (if j < i then j else i))
  | _, _, _ => none

abbrev Phi := Nat → List Val → Option (Val × List (Option Val))

inductive Out where
  | nx (E : En)
  | rt (x : Val) (E : En)
  | rs (x : Exn) (E : En)

/-- arguments: a value, or a slot whose object is handed over and back -/
abbrev Ar := Val ⊕ Nat
/-- the handed slots' values, taken out -/
def app3 : Op3 → D → D → D → Option D
  | .getd, .dic t kvs, k, x => if keyOk t k then (match dget kvs k with
    | none => if plain x then some x else none
    | some v => if plain v then some v else none) else none
  | _, _, _, _ => none
def gat : List Ar → En → Option (List Val × En)
  | [], E => some ([], E)
  | .inl x :: r, E => do
    let (xs, E1) ← gat r E
    some (x :: xs, E1)
  | .inr i :: r, E => match E[i]? with
    | some (some x) => do
      let (xs, E1) ← gat r (E.set i none)
      some (x :: xs, E1)
    | _ => none
/-- .. and put back -/
def scat : List Ar → List (Option Val) → En → En
  | .inr i :: r, o :: os, E => scat r os (E.set i o)
  | .inl _ :: r, _ :: os, E => scat r os E
  | _, _, E => E
def callG (Φ : Phi) (g : Nat) (as : List Ar) (E : En) : Option (Val × En) := do
  let (vs, E1) ← gat as E
  let (r, os) ← Φ g vs
  some (r, scat as os E1)

/-- a value's parts go to the target's slots -/
def binds : List Nat → List D → Ow → En → Option En
  | [], [], _, E => some E
  | i :: is, d :: ds, w, E => binds is ds w (E.set i (some (vl d w)))
  | _, _, _, _ => none
def bindT : Tg → Val → En → Option En
  | .v i, x, E => some (E.set i (some x))
  | .t is, (.tup ds, w), E => if is.length = ds.length then binds is ds (kid w) E else none
  | .t is, (.lst ds, w), E => if is.length = ds.length then binds is ds (kid w) E else none
  | .t _, _, _ => none

def shv (d : D) : Val := vl d .sh
def chars (s : Str) : List D := s.cps.toList.map fun c => .str ⟨#[c]⟩
def enum0 : Nat → List D → List D
  | _, [] => []
  | n, x :: xs => .tup [.int n, x] :: enum0 (n + 1) xs
def zip0 : List D → List D → List D
  | x :: xs, y :: ys => .tup [x, y] :: zip0 xs ys
  | _, _ => []
def rng (lo : Int) (c : Int) : Nat → Nat → List D
  | _, 0 => []
  | i, n + 1 => .int (lo + (i : Int) * c) :: rng lo c (i + 1) n
def inB (i : Int) : Bool := decide (-(2 ^ 62) ≤ i) && decide (i < 2 ^ 62)
def isIntD : D → Bool
  | .int _ => true
  | _ => false
def intKeys : List (D × D) → Bool
  | [] => true
  | (k, _) :: r => isIntD k && intKeys r
/-- the items that are walked -/
def items : Ik → List D → Option (List D)
  | .of, [.lst xs] => some xs
  | .of, [.tup xs] => some xs
  | .of, [.str s] => some (chars s)
  | .keys, [.dic false kvs] => if intKeys kvs then some (kvs.map (·.1)) else none
  | .keys, [.lst xs] => some xs
  | .keys, [.tup xs] => some xs
  | .keys, [.str s] => some (chars s)
  | .rng, [.int n] => if inB n then some (rng 0 1 0 n.toNat) else none
  | .rng, [.int lo, .int hi] => if inB lo && inB hi then some (rng lo 1 0 (hi - lo).toNat) else none
  | .rng, [.int lo, .int hi, .int c] => if 0 < c then (if inB lo && inB hi && decide (0 < c) && decide (c < 1073741824) then some (rng lo c 0 ((hi - lo + c - 1) / c).toNat) else none) else (if inB lo && inB hi && decide (c = -1) then some (rng lo c 0 (lo - hi).toNat) else none)
  | .enu, [.lst xs] => some (enum0 0 xs)
  | .enuS, [.str s] => some (enum0 0 (chars s))
  | .zip, [.lst xs, .lst ys] => some (zip0 xs ys)
  | .rev, [.lst xs] => some xs.reverse
  | _, _ => none

/-- a dict whose keys are tuples of whole numbers, by a name or as the last of a list -/
def intKT : List (D × D) → Bool
  | [] => true
  | (.tup ds, _) :: r => ds.all isIntD && intKT r
  | _ => false
def rowsD (i : Nat) (d : D) : D → Option (Nat × D × List (D × D))
  | .dic true kvs => if intKT kvs then some (i, d, kvs) else none
  | _ => none
def rowsT : Ex → En → Option (Nat × D × List (D × D))
  | .var i, E => match E[i]? with
    | some (some (d, _)) => rowsD i d d
    | _ => none
  | .ix (.var i) (.op1 .neg (.int 1)), E => match E[i]? with
    | some (some (.lst xs, _)) => match xs.getLast? with
      | some d => rowsD i (.lst xs) d
      | none => none
    | _ => none
  | _, _ => none
/-- is it so of an item -/
def anyL (f : D → Option Bool) : List D → Option Bool
  | [] => some false
  | d :: r => match f d, anyL f r with
    | some b, some c => some (b || c)
    | _, _ => none
def blV : Option (Val × En) → Option Bool
  | some ((.bl b, _), _) => some b
  | _ => none
/-- two items of a list exchanged -/
def swpD : D → Int → Int → Option D
  | .lst xs, k1, k2 => match ixN xs.length k1, ixN xs.length k2 with
    | some n1, some n2 => match xs[n1]?, xs[n2]? with
      | some d1, some d2 => if scalar d1 && scalar d2 then some (.lst ((xs.set n1 d2).set n2 d1)) else none
      | _, _ => none
    | _, _ => none
  | _, _, _ => none
def idxV : Option (Option Val) → Option Int
  | some (some (.int k, _)) => some k
  | _ => none
def idxE : Ex → En → Option Int
  | .int k, _ => some k
  | .var j, E => idxV E[j]?
  | _, _ => none
def forL (f : Val → En → Option Out) : List D → En → Option Out
  | [], E => some (.nx E)
  | d :: ds, E => match f (shv d) E with
    | some (.nx E1) => forL f ds E1
    | o => o
def whileL (c : En → Option (Bool × En)) (f : En → Option Out) : Nat → En → Option Out
  | 0, _ => none
  | n + 1, E => match c E with
    | some (true, E1) => (match f E1 with
      | some (.nx E2) => whileL c f n E2
      | o => o)
    | some (false, E1) => some (.nx E1)
    | none => none
/-- a comprehension's items: the new list so far, from the left -/
def compL (f : Val → En → Option (Option Val × En)) : List D → En → List D → Option (List D × En)
  | [], E, acc => some (acc, E)
  | d :: ds, E, acc => match f (shv d) E with
    | some (some x, E1) => compL f ds E1 (acc ++ [x.1])
    | some (none, E1) => compL f ds E1 acc
    | none => none
def wipes : List Nat → En → En
  | [], E => E
  | i :: is, E => (wipes is E).set i none
/-- the slots of a block's own names as they were -/
def back : List Nat → En → En → En
  | [], _, E => E
  | i :: is, E0, E => (back is E0 E).set i (E0.getD i none)
def keepable (is : List Nat) (E : En) : Bool := is.all fun i => match E[i]? with
  | some (some (d, w)) => plain d || decide (w = .sh)
  | some none => true
  | none => false

/-- a store at a path -/
def storeI (xs : List D) (i : Int) (v : D) : Option (List D) := (ixN xs.length i).map fun j => xs.set j v
/-- a part, a part exchanged -/
def kidD : D → D → Option D
  | .lst xs, .int i => atI xs i
  | .tup xs, .int i => atI xs i
  | .dic false kvs, k => if (keyD k).isSome then dget kvs k else none
  | _, _ => none
def putD : D → D → D → D
  | .lst xs, .int i, x => match ixN xs.length i with
    | some j => .lst (xs.set j x)
    | none => .lst xs
  | .tup xs, .int i, x => match ixN xs.length i with
    | some j => .tup (xs.set j x)
    | none => .tup xs
  | .dic false kvs, k, x => .dic false (dput kvs k x)
  | d, _, _ => d
/-- one turn of `for x in d: d[x][k].append(None)` -/
def apStep (k : Int) (a : D) : D → Option D
  | .dic false kvs => match kidD (.dic false kvs) a with
    | some (.tup ds) => match kidD (.tup ds) (.int k) with
      | some (.lst ys) => if ys.length < line then some (putD (.dic false kvs) a (putD (.tup ds) (.int k) (.lst (ys ++ [.non])))) else none
      | _ => none
    | _ => none
  | _ => none
def apN (k : Int) : List D → D → Option D
  | [], d => some d
  | a :: as, d => match apStep k a d with
    | some d1 => apN k as d1
    | none => none
def kidsD : D → List D → Option D
  | d, [] => some d
  | d, k :: ks => (kidD d k).bind fun c => kidsD c ks
def putsD : D → List D → D → D
  | _, [], x => x
  | d, k :: ks, x => match kidD d k with
    | some c => putD d k (putsD c ks x)
    | none => d
/-- a slot of our own that has a list there -/
def isPathL (o : Option (Option Val)) (ks : List D) : Bool := match o with
  | some (some (d, .deep)) => (match kidsD d ks with
    | some (.lst _) => true
    | _ => false)
  | _ => false
/-- the part at a path, changed -/
def updP (f : D → Option (D × D)) (ks : List D) (d : D) : Option (D × D) := (kidsD d ks).bind fun c => (f c).map fun p => (putsD d ks p.1, p.2)
/-- what the methods that change do: the new content, the answer -/
def mutD : Mt → List D → D → Option (D × D)
  | .append, [x], .lst xs => if xs.length < line then some (.lst (xs ++ [x]), .non) else none
  | .pop, [], .lst xs => match xs.getLast? with
    | some x => if plain x then some (.lst xs.dropLast, x) else none
    | none => none
  | .pop1, [.int i], .lst xs => match ixN xs.length i with
    | some j => (match xs[j]? with
      | some x => if plain x ∧ -(2 ^ 63) ≤ i ∧ i < 2 ^ 63 then some (.lst (xs.eraseIdx j), x) else none
      | none => none)
    | none => none
  | .clear, [], .lst _ => some (.lst [], .non)
  | .reverse, [], .lst xs => some (.lst xs.reverse, .non)
  | .insert, [.int i, x], .lst xs => if xs.length < line ∧ 0 ≤ i ∧ i < 2 ^ 63 then some (.lst (xs.take i.toNat ++ [x] ++ xs.drop i.toNat), .non) else none
  | .extend, [.lst ys], .lst xs => if xs.length + ys.length ≤ line then some (.lst (xs ++ ys), .non) else none
  | .remove, [x], .lst ys => if shp 20 x = true ∧ shps 20 ys = true then (ys.findIdx? fun y => deq y x).map fun j => (.lst (ys.eraseIdx j), .non) else none
  | _, _, _ => none
def setD (k v : D) : D → Option (D × D)
  | .lst xs => match k with
    | .int i => (storeI xs i v).map fun ys => (.lst ys, .non)
    | _ => none
  | .dic t kvs => if kvs.length < line ∧ keyOk t k = true then some (.dic t (dput kvs k v), .non) else none
  | _ => none
def isDicD : D → Bool
  | .dic _ _ => true
  | _ => false
/-- a change at a path of slot i. All new parts are plain or our own, or the path is the slot itself -/
def chg (i : Nat) (ks : List D) (own : Bool) (f : D → Option (D × D)) (E : En) : Option (Val × En) :=
  match E[i]? with
  | some (some (d, w)) =>
    if w = .sh then none
    else if ks.isEmpty then do
      let (d', r) ← f d
      some (vl r (kid w), E.set i (some (d', if own then w else .top)))
    else if w = .deep ∧ own then do
      let (d', r) ← updP f ks d
      some (vl r .deep, E.set i (some (d', .deep)))
    else none
  | _ => none

def sliceI : Ex → D → Option (Option Int)
  | .non, _ => some none
  | _, .int i => some (some i)
  | _, _ => none
def slD (lo hi : Option Int) : D → Ow → Option Val
  | .str s, _ => some (.str (cutS s lo hi), .deep)
  | .lst xs, w => some (newLst ((xs.drop (HT.sIx xs.length 0 lo)).take (HT.sIx xs.length xs.length hi - HT.sIx xs.length 0 lo)) w)
  | .tup xs, w => if HT.sIx xs.length 0 lo = 0 ∧ HT.sIx xs.length xs.length hi = xs.length then none else some (vl (.tup ((xs.drop (HT.sIx xs.length 0 lo)).take (HT.sIx xs.length xs.length hi - HT.sIx xs.length 0 lo))) w)
  | _, _ => none

/-- an entry taken out of a dict of our own with plain values -/
def dpopD (kvs : List (D × D)) (w : Ow) (i : Nat) (ws : List Nat) (y : D) (E1 : En) : Option (Val × En) :=
  if w ≠ .sh ∧ ws.contains i = false ∧ (keyD y).isSome = true ∧ plains (vals kvs) = true then (dget kvs y).map fun v => ((v, .deep), E1.set i (some (.dic false (kvs.filter fun p => !keq p.1 y), w))) else none
/-- behind a loan: what has been stored holds no object -/
def brwOk (is ws : List Nat) (E : En) : Bool := ws.all fun j => is.contains j || match E[j]? with
  | some (some (d, _)) => flat d
  | some none => true
  | none => false
/-- lists and dicts of our own, with plain parts, lent to all -/
def lend : List Nat → En → Option En
  | [], E => some E
  | i :: is, E => match E[i]? with
    | some (some (d, w)) => if w = .sh ∨ plain d = false then lend is (E.set i (some (d, .sh))) else none
    | _ => none
/-- a list with plain parts -/
def slkOk : D → Bool
  | .lst ys => plains ys
  | _ => false
def unlA (is : List Nat) : Nat → En → En → En
  | k, x :: E, y :: E1 => (if is.contains k then x else y) :: unlA is (k + 1) E E1
  | _, _, E1 => E1
section
variable (Φ : Phi)
mutual
def ev : Ex → En → Option (Val × En)
  | .int i, E => some ((.int i, .deep), E)
  | .str s, E => some ((.str s, .deep), E)
  | .bl b, E => some ((.bl b, .deep), E)
  | .non, E => some ((.non, .deep), E)
  | .glo d, E => some ((d, .deep), E)
  | .var i, E => match E[i]? with
    | some (some x) => some (x, E)
    | _ => none
  | .shv i, E => match E[i]? with
    | some (some (d, .sh)) => some ((d, .sh), E)
    | _ => none
  | .shp i, E => match E[i]? with
    | some (some (d, _)) => if plain d then some ((d, .deep), E) else none
    | _ => none
  | .io _, _ => none
  | .mv i, E => match E[i]? with
    | some (some x) => some (x, E.set i none)
    | _ => none
  | .ix a k, E => do
    let (x, E) ← ev a E
    if brw a (wr k) x then
      let (y, E) ← ev k E
      let d ← item x.1 y.1
      some (vl d (kid x.2), E)
    else none
  | .sl a lo hi, E => do
    let (x, E) ← ev a E
    let (x, E) := kesc a x E
    if brw a (wr lo ++ wr hi) x then
      let (l, E) ← ev lo E
      let (h, E) ← ev hi E
      let l ← sliceI lo l.1
      let h ← sliceI hi h.1
      let r ← slD l h x.1 x.2
      some (r, E)
    else none
  | .op1 o a, E => do
    let (x, E) ← ev a E
    let d ← app1 o x.1
    some ((d, .deep), E)
  | .op2 o a b, E => do
    let (x, E) ← ev a E
    if brw a (wr b) x then
      let (y, E) ← ev b E
      let d ← app2 o x.1 y.1
      some ((d, .deep), E)
    else none
  | .op3 o a b c, E => do
    let (x, E) ← ev a E
    if brw a (wr b ++ wr c) x then
      let (y, E) ← ev b E
      if brw b (wr c) y then
        let (z, E) ← ev c E
        let d ← app3 o x.1 y.1 z.1
        some ((d, .deep), E)
      else none
    else none
  | .getS a b c, E => do
    let (x, E) ← ev a E
    if brw a (wr b ++ wrx c) x then
      let (y, E) ← ev b E
      if brw b (wrx c) y then
        let (z, E) ← ev c E
        let (z, E) := esc c z E
        match x with
        | (.dic t kvs, .sh) => if keyOk t y.1 then some (vl ((dget kvs y.1).getD z.1) .sh, E) else none
        | _ => none
      else none
    else none
  | .opP o a, E => match o with
    | .list => do
      let (x, E) ← ev a E
      let (x, E) := kesc a x E
      match x with
      | (.lst xs, w) => some (newLst xs w, E)
      | (.tup xs, w) => some (newLst xs w, E)
      | (.dic false kvs, _) => (keysI kvs).map fun ns => ((.lst (ns.map .int), .deep), E)
      | _ => none
    | .rev => do
      let (x, E) ← ev a E
      let (x, E) := kesc a x E
      match x with
      | (.lst xs, w) => if plains xs = true ∨ w ≠ .deep then some (newLst xs.reverse w, E) else none
      | _ => none
    | .tuple => do
      let (x, E) ← ev a E
      match x.1 with
      | .lst xs => if plains xs then some ((.tup xs, .deep), E) else none
      | _ => none
    | .dict => do
      let (x, E) ← ev a E
      let (x, E) := kesc a x E
      match x with
      | (.lst xs, w) => match pairsD xs with
        | some kvs => if keysNd kvs && decide (xs.length ≤ line) then some (newDic kvs w, E) else none
        | none => none
      | (.dic false kvs, w) => some (newDic kvs w, E)
      | _ => none
    | .part z => do
      let (x, E) ← ev a E
      let d ← prtnD z x.1
      some ((d, .deep), E)
    | .ssetT => do
      let (x, E) ← ev a E
      let d ← ssetTD x.1
      some ((d, .deep), E)
    | .sset => do
      let (x, E) ← ev a E
      match x.1 with
      | .lst xs => match intsOf xs with
        | some ns => if ns.length < 64 then some ((.lst ((sortI (dedup ns)).map .int), .deep), E) else none
        | none => none
      | _ => none
    | .sorted => do
      let (x, E) ← ev a E
      match x.1 with
      | .lst xs => match intsOf xs with
        | some ns => some ((.lst ((sortI ns).map .int), .deep), E)
        | none =>
          let (y, E) := kesc a x E
          if srtOk xs then some (newLst (xs.mergeSort leD) y.2, E) else none
      | .dic false kvs => (keysI kvs).map fun ns => ((.lst ((sortI ns).map .int), .deep), E)
      | _ => none
  | .catT a b, E => do
    let (x, E) ← ev a E
    if brw a (wr b) x then
      let (y, E) ← ev b E
      let d ← catTD x.1 y.1
      some ((d, .deep), E)
    else none
  | .cat a b, E => do
    let (x, E) ← ev a E
    let (x, E) := kesc a x E
    if brw a (wr b) x then
      let (y, E) ← ev b E
      let (y, E) := kesc b y E
      match x, y with
      | (.lst xs, w), (.lst ys, u) =>
        if xs.length + ys.length ≤ line ∧ ((w = .deep ∧ u = .deep) ∨ ((w ≠ .deep ∨ plains xs = true) ∧ (u ≠ .deep ∨ plains ys = true))) then
          some (newLst (xs ++ ys) (if w = .deep ∧ u = .deep then .deep else .sh), E)
        else none
      | _, _ => none
    else none
  | .rep a b, E => do
    let (x, E) ← ev a E
    let (y, E) ← ev b E
    match x.1, y.1 with
    | .lst xs, .int k => if plains xs ∧ -(2 ^ 63) ≤ k ∧ k < 2 ^ 63 ∧ xs.length * k.toNat ≤ line then some ((.lst (List.replicate k.toNat xs).flatten, .deep), E) else none
    | _, _ => none
  | .and a b, E => do
    let (x, E) ← ev a E
    match x.1 with
    | .bl true => do
      let (y, E) ← ev b E
      match y.1 with
      | .bl c => some ((.bl c, .deep), E)
      | _ => none
    | .bl false => some ((.bl false, .deep), E)
    | _ => none
  | .or a b, E => do
    let (x, E) ← ev a E
    match x.1 with
    | .bl false => do
      let (y, E) ← ev b E
      match y.1 with
      | .bl c => some ((.bl c, .deep), E)
      | _ => none
    | .bl true => some ((.bl true, .deep), E)
    | _ => none
  | .ife c a b, E => do
    let (x, E) ← ev c E
    match x.1 with
    | .bl true => do
      let (y, E) ← ev a E
      some (esc a y E)
    | .bl false => do
      let (y, E) ← ev b E
      some (esc b y E)
    | _ => none
  | .tup es, E => do
    let (xs, E) ← evs es E
    some (mkTup xs, E)
  | .lst es, E => do
    let (xs, E) ← evs es E
    some (mkLst xs, E)
  | .dct0 t, E => some ((.dic t [], .deep), E)
  | .dct es, E => do
    let (xs, E) ← evs es E
    let kvs ← pairUp (ds xs)
    if keysOk kvs then some ((.dic false kvs, if allDeep xs then .deep else .top), E) else none
  | .dctT es, E => do
    let (xs, E) ← evs es E
    let kvs ← pairUp (ds xs)
    if keysOkT kvs then some ((.dic true kvs, if allDeep xs then .deep else .top), E) else none
  | .inG neg e xs, E => do
    let (x, E) ← ev e E
    match x.1 with
    | .str s => some ((.bl (if neg then !xs.contains s else xs.contains s), .deep), E)
    | _ => none
  | .call g es, E => do
    let (as, E) ← eva es E
    callG Φ g as E
  | .callv f es, E => do
    let (x, E) ← ev f E
    match x.1 with
    | .fn g => do
      let (as, E) ← eva es E
      callG Φ g as E
    | _ => none
  | .mut m i es, E => match E[i]? with
    | some (some (.lst _, _)) => do
      let (xs, E) ← evs es E
      chg i [] (allDeep xs) (mutD m (ds xs)) E
    | _ => none
  | .dupd i es, E => if isOwnDic E[i]? then do
      let (xs, E) ← evs es E
      match xs, E[i]? with
      | [(.dic false more, .deep)], some (some (.dic false kvs, w)) => if w ≠ .sh ∧ kvs.length + more.length ≤ line then some ((.non, .deep), E.set i (some (.dic false (dputs kvs more), w))) else none
      | _, _ => none
    else none
  | .clrP p, E => do
    let (ks, E1) ← evk p E
    if (wr p).contains (root p) then none
    else match E[root p]? with
    | some (some (d, .deep)) => (match kidsD d ks with
      | some (.dic false _) => some ((.non, .deep), E1.set (root p) (some (putsD d ks (.dic false []), .deep)))
      | _ => none)
    | _ => none
  | .mutP m p es, E => do
    let (ks, E1) ← evk p E
    if ks.isEmpty || (wr p ++ wrs es).contains (root p) || !isPathL (E[root p]?) ks then none
    else do
      let (xs, E2) ← evs es E1
      chg (root p) ks (allDeep xs) (mutD m (ds xs)) E2
  | .comp shr elt tg k es cond, E => do
    let (xs, E) ← (match k with | .rng => evs es E | .zip => evs es E | _ => evit (tgs tg ++ (wrx elt ++ wr cond)) es E)
    let its ← items k (ds xs)
    if its.length ≤ line ∧ keepable (tgs tg) E then do
      let (acc, E1) ← compL (fun x E => do
        let E ← bindT tg x (wipes (tgs tg) E)
        let (c, E) ← ev cond E
        match c.1 with
        | .bl true => do
          let (y, E) ← ev elt E
          let (y, E) := esc elt y E
          if plain y.1 || shr || decide (y.2 = .deep) then some (some y, E) else none
        | .bl false => some (none, E)
        | _ => none) its E []
      some ((.lst acc, if shr && !plains acc then .top else .deep), back (tgs tg) E E1)
    else none
  | .slk a lo hi, E => do
    let (x, E) ← ev a E
    if slkOk x.1 = true ∧ brw a (wr lo ++ wr hi) x = true then
      let (l, E) ← ev lo E
      let (h, E) ← ev hi E
      let l ← sliceI lo l.1
      let h ← sliceI hi h.1
      let r ← slD l h x.1 x.2
      some (r, E)
    else none
  | .anyT j i cond, E => match E[i]? with
    | some (some (.dic true kvs, _)) =>
      if intKT kvs = true ∧ (j == i) = false ∧ (wr cond).isEmpty = true ∧ kvs.length ≤ line ∧ keepable [j] (E.set i (some (.dic true kvs, .sh))) = true then
        (anyL (fun a => blV (ev cond ((E.set i (some (.dic true kvs, .sh))).set j (some (a, .deep))))) (kvs.map (·.1))).map fun b => ((.bl b, .deep), E.set i (some (.dic true kvs, .sh)))
      else none
    | _ => none
  | .dpop i k, E => match E[i]? with
    | some (some (.dic false kvs, w)) => do
      let (y, E1) ← ev k E
      dpopD kvs w i (wr k) y.1 E1
    | _ => none
  | .brw is e, E => match lend is E with
    | some E0 => do
        let (x, E1) ← ev e E0
        if (flat x.1 = true ∨ (x.2 = .deep ∧ isPl e = false ∧ nofs x.1 = true)) ∧ brwOk is (wr e) E1 = true then some ((x.1, .deep), unlA is 0 E E1) else none
    | none => none
  | .comph elt tg i cond, E => match E[i]? with
    | some (some (.dic false kvs, w)) =>
      if w ≠ .sh ∧ plains (vals kvs) = true ∧ intKeys kvs = true ∧ (tgs tg).contains i = false ∧ ((wrx elt ++ wr cond).all fun j => (tgs tg).contains j) = true ∧ kvs.length ≤ line ∧ keepable (tgs tg) (E.set i (some (.dic false kvs, .sh))) = true then do
        let (acc, _) ← compL (fun x E => do
          let E ← bindT tg x (wipes (tgs tg) E)
          let (c, E) ← ev cond E
          match c.1 with
          | .bl true => do
            let (y, E) ← ev elt E
            let (y, E) := esc elt y E
            if plain y.1 || false || decide (y.2 = .deep) then some (some y, E) else none
          | .bl false => some (none, E)
          | _ => none) (kvs.map (·.1)) (E.set i (some (.dic false kvs, .sh))) []
        if plains acc then some ((.lst acc, .deep), E) else none
      else none
    | _ => none
def evs : List Ex → En → Option (List Val × En)
  | [], E => some ([], E)
  | e :: es, E => do
    let (x, E) ← ev e E
    let (x, E) := esc e x E
    let (xs, E) ← evs es E
    some (x :: xs, E)
/-- what is walked: a place whose parts are plain is held, all else is given to all -/
def evit (w : List Nat) : List Ex → En → Option (List Val × En)
  | [], E => some ([], E)
  | e :: es, E => do
    let (x, E) ← ev e E
    let (x, E) := if isPl e && kplain x.1 && !isDicD x.1 && !w.contains (root e) then (x, E) else esc e x E
    let (xs, E) ← evit w es E
    some (x :: xs, E)
def eva : List Ex → En → Option (List Ar × En)
  | [], E => some ([], E)
  | .io i :: es, E => match E[i]? with
    | some (some _) => do
      let (xs, E) ← eva es E
      some (.inr i :: xs, E)
    | _ => none
  | e :: es, E => do
    let (x, E) ← ev e E
    let (x, E) := esc e x E
    let (xs, E) ← eva es E
    some (.inl x :: xs, E)
/-- a place's keys -/
def evk : Ex → En → Option (List D × En)
  | .var _, E => some ([], E)
  | .ix a k, E => do
    let (ks, E) ← evk a E
    let (y, E) ← ev k E
    some (ks ++ [y.1], E)
  | _, _ => none
end
def inls : List Ar → Option (List Val)
  | [] => some []
  | .inl x :: r => (inls r).map (x :: ·)
  | .inr _ :: _ => none
/-- a call that raises -/
def evX (g : Nat) (es : List Ex) (E : En) : Option (Exn × En) := do
  let (as, E) ← eva Φ es E
  let vs ← inls as
  match Φ (g + RZ) vs with
  | some ((.fn c, _), _) => if EB ≤ c then some (exnOf c, E) else none
  | _ => none
def ex : Ss → En → Option Out
  | .skip, E => some (.nx E)
  | .seq a b, E => match ex a E with
    | some (.nx E1) => ex b E1
    | o => o
  | .set tg e, E => do
    let (x, E) ← ev Φ e E
    let (x, E) := esc e x E
    let E ← bindT tg x E
    some (.nx E)
  | .setIx i k e, E => do
    let (x, E) ← ev Φ e E
    let (x, E) := esc e x E
    match E[i]? with
    | some (some _) => do
      let (y, E) ← ev Φ k E
      let (_, E) ← chg i [] (plain x.1 || decide (x.2 = .deep)) (setD y.1 x.1) E
      some (.nx E)
    | _ => none
  | .setP p k e, E => do
    let (x, E1) ← ev Φ e E
    let (ks, E2) ← evk Φ p E1
    if (!plain x.1 || ks.isEmpty || (wr p ++ wr k).contains (root p) || !isPathL (E1[root p]?) ks) = true then none
    else do
      let (y, E3) ← ev Φ k E2
      let (_, E4) ← chg (root p) ks true (setD y.1 x.1) E3
      some (.nx E4)
  | .expr e, E => do
    let (_, E) ← ev Φ e E
    some (.nx E)
  | .ite c a b, E => do
    let (x, E) ← ev Φ c E
    match x.1 with
    | .bl true => ex a E
    | .bl false => ex b E
    | _ => none
  | .for_ tg k es body, E => do
    let (xs, E) ← (match k with | .rng => evs Φ es E | .zip => evs Φ es E | _ => evit Φ (wrS body ++ tgs tg) es E)
    let its ← items k (ds xs)
    forL (fun x E => do
      let E ← bindT tg x E
      ex body E) its E
  | .whl c body, E => whileL (fun E => do
      let (x, E) ← ev Φ c E
      match x.1 with
      | .bl b => some (b, E)
      | _ => none) (fun E => ex body E) 1000000 E
  | .ret (.var i), E => match E[i]? with
    | some (some x) => some (.rt x (if plain x.1 then E else E.set i none))
    | _ => none
  | .ret e, E => do
    let (x, E) ← ev Φ e E
    let (x, E) := esc e x E
    some (.rt x E)
  | .retn, E => some (.rt (.non, .deep) E)
  | .rs c, E => some (.rs (c, 0) E)
  | .rsP c e, E => do
    let (x, E) ← ev Φ e E
    match x.1 with
    | .non => some (.rs (c, 1) E)
    | .int i => if 0 ≤ i then some (.rs (c, i.toNat + 2) E) else none
    | _ => none
  | .xc g es, E => match ev Φ (.call g es) E with
    | some (_, E1) => some (.nx E1)
    | none => (evX Φ g es E).map fun p => .rs p.1 p.2
  | .sc i g es, E => match ev Φ (.call g es) E with
    | some (x, E1) => some (.nx (E1.set i (some x)))
    | none => (evX Φ g es E).map fun p => .rs p.1 p.2
  | .ic g es a b, E => match ev Φ (.call g es) E with
    | some (x, E1) => (match x.1 with
      | .bl true => ex b E1
      | .bl false => ex a E1
      | _ => none)
    | none => (evX Φ g es E).map fun p => .rs p.1 p.2
  | .try_ c j i body, E => match ex body E with
    | some (.rs x E1) => if c = 0 ∨ c = x.1 then some (.nx ((E1.set i (some (errD x, .deep))).set j none)) else none
    | o => o
  | .tryU k j i z body, E => match ex body E with
    | some (.rs x E1) => if x.2 = 0 then some (.nx ((if (k == 0 || k == 99 || k == x.1) = true then E1.set i (some (.str z, .deep)) else E1).set j none)) else none
    | o => o
  | .forT is e b, E => match rowsT e E with
    | some (i, d, kvs) => forL (fun x E => do
      let E ← bindT (.t is) x E
      ex b E) (kvs.map (·.1)) (E.set i (some (d, .sh)))
    | none => none
  | .swp i a b, E => match E[i]? with
    | some (some (d, .deep)) => match idxE a E, idxE b E with
      | some k1, some k2 => (swpD d k1 k2).map fun d' => .nx (E.set i (some (d', .deep)))
      | _, _ => none
    | _ => none
  | .popK i l, E => match E[i]?, E[l]? with
    | some (some (.dic false kvs, .deep)), some (some (.int n, _)) => if dhas kvs (.int n) = true then some (.nx (E.set i none)) else none
    | _, _ => none
  | .apN i j k, E => match E[i]? with
    | some (some (.dic false kvs, .deep)) => if i = j ∨ intKeys kvs = false ∨ E.length ≤ j then none else (apN k (kvs.map (·.1)) (.dic false kvs)).map fun d => .nx ((E.set i (some (d, .deep))).set j none)
    | _ => none
  | .popS i, E => match E[i]? with
    | some (some (.lst xs, w)) => if w ≠ .sh ∧ xs.isEmpty = false then some (.nx (E.set i (some (.lst xs.dropLast, w)))) else none
    | _ => none
  | .apw j i s, E => match E[j]?, E[i]? with
    | some (some (.lst xs, .deep)), some (some (d, .deep)) =>
      if (plain d || (wrS s).contains j || (asg s).contains i || i == j) = true ∨ line ≤ xs.length then none
      else match ex s (E.set j none) with
      | some (.nx E1) => (match E1[i]? with
        | some (some (d1, .deep)) => some (.nx ((E1.set i none).set j (some (.lst (xs ++ [d1]), .deep))))
        | _ => none)
      | _ => none
    | _, _ => none
end
structure Def where
  np : Nat
  ns : Nat
  body : Ss
def outs (d : Def) (E : En) : List (Option Val) := (List.range d.np).map fun j => if (asg d.body).contains j then none else E.getD j none
def callD (Φ : Phi) (d : Def) (xs : List Val) : Option (Val × List (Option Val)) :=
  if xs.length = d.np then
    match ex Φ d.body (xs.map some ++ List.replicate (d.ns - d.np) none) with
    | some (.rt x E) => some (x, outs d E)
    | some (.nx E) => some ((.non, .deep), outs d E)
    | _ => none
  else none
/-- .. that raises -/
def callX (Φ : Phi) (d : Def) (xs : List Val) : Option (Val × List (Option Val)) :=
  if xs.length = d.np then
    match ex Φ d.body (xs.map some ++ List.replicate (d.ns - d.np) none) with
    | some (.rs x _) => some ((errD x, .deep), [])
    | _ => none
  else none
def call (tab : Nat → Option Def) : Nat → Phi
  | 0 => fun _ _ => none
  | n + 1 => fun g xs => match tab g with
    | some d => callD (call tab n) d xs
    | none => match tab (g - RZ) with
      | some d => if RZ ≤ g then callX (call tab n) d xs else none
      | none => none
theorem small_of {tab : Nat → Option Def} (h : ∀ g, 1000 ≤ g → tab g = none) (n : Nat) : SmallΦ (call tab n) := ⟨fun g vs hg => by
  cases n with
  | zero => rfl
  | succ n =>
    have h1 : tab g = none := h g (Nat.le_trans (by decide) hg)
    have h2 : tab (g - RZ) = none := h _ (Nat.le_trans (show 1000 ≤ EB - RZ by decide) (Nat.sub_le_sub_right hg RZ))
    simp only [call, h1, h2]⟩
end BS

set_option Elab.async false
set_option linter.all false
set_option maxRecDepth 100000
set_option maxHeartbeats 1000000

namespace BS
open PySem PySem.Spec PyProof.Rows L2
def clsNames : List Str := ["BesideError", "NoWeb", "NoSaying", "NoText", "NoMarks", "Untrue", "TooMany", "NoTie", "NoPlace", "NoBack", "NoNames"]
def cn (c : Nat) : Str := clsNames.getD c ""

def clsThere (K : PySem.W.Frag) (c : Nat) : Prop := He.Fa.ok K (.glo (cn c)) = true
structure XC (K : PySem.W.Frag) (c : Nat) : Prop where
  lt : c < 11
  exc : ExcC K (He.ga K (cn c))
  own : ∀ C, C < 11 → clsThere K C → PySem.W.kitOne K (.ref (He.ga K (cn c))) (.ref (He.ga K (cn C))) = some (C == 0 || C == 99 || C == c)
  ve : PySem.W.kitOne K (.ref (He.ga K (cn c))) (.type "ValueError") = some true
  ok : ((PySem.W.clsIn K (He.ga K (cn c))).isSome && PySem.W.typeIn K (.ref (He.ga K (cn c))) == some (.type "type")) = true
  bm : PySem.W.exmOne K (.ref (He.ga K (cn c))) (.ref (He.ga K (cn 0))) = some true
  se : PySem.W.exmOne K (.ref (He.ga K (cn c))) (.ref (He.ga K (cn c))) = some true
def eqS (a b : Option (Option Value)) : Bool := match a, b with
  | none, none => true
  | some none, some none => true
  | some (some x), some (some y) => x == y
  | _, _ => false

def ErrP (C : Addr) (d : Option Addr) (a : Addr) : Heap → Prop := fun h => ∃ oe, h.get? a = some oe ∧ oe.cls = .ref C ∧ oe.dict = d ∧ ∃ vs, oe.data = .fields vs
def placeV : Nat → V
  | 0 => .non
  | 1 => .non
  | n + 2 => .int n

def ErrD (Z : Hp) : Nat → Option Addr → Prop
  | 0, d => d = none
  | n + 1, d => ∃ dx, d = some dx ∧ Z dx = some (.xd [("place", placeV (n + 1))])
def ErrAt (K : PySem.W.Frag) (Z : Hp) (g : Nat) (a : Addr) : Prop := EB ≤ g ∧ XC K (exnOf g).1 ∧ ∃ d, Z a = some (.ext (ErrP (He.ga K (cn (exnOf g).1)) d a)) ∧ ErrD Z (exnOf g).2 d

def ErrV (K : PySem.W.Frag) (H : Hp) (x : Exn) (cls : Value) (d : Option Addr) : Prop := cls = .ref (He.ga K (cn x.1)) ∧ XC K x.1 ∧ ErrD H x.2 d
theorem exn_err {x : Exn} (h : x.1 < 16) : exnOf (EB + (x.1 + 16 * x.2)) = x := by
  obtain ⟨a, b⟩ := x
  unfold exnOf
  rw [Nat.add_sub_cancel_left]
  have h : a < 16 := h
  have h1 : (a + 16 * b) % 16 = a := by omega
  have h2 : (a + 16 * b) / 16 = b := by omega
  show ((a + 16 * b) % 16, (a + 16 * b) / 16) = (a, b)
  rw [h1, h2]
end BS

set_option Elab.async false
set_option linter.all false
set_option maxRecDepth 100000
set_option maxHeartbeats 1000000
namespace BS
open PySem PySem.Spec PyProof.Rows L2


def Le (Z Z' : Hp) : Prop := ∀ a u, Z a = some u → Z' a = some u
theorem Le.refl (Z : Hp) : Le Z Z := fun _ _ h => h
theorem Le.trans {A B C : Hp} (x : Le A B) (y : Le B C) : Le A C := fun a u h => y a u (x a u h)
def isDic : HO → Prop
  | .dK _ => True
  | .dT _ => True
  | _ => False
def Sub (Z H : Hp) : Prop := ∀ a u, Z a = some u → H a = some u ∨ (isDic u ∧ ∃ o, H a = some (.frz o u))

def LAt (K : PySem.W.Frag) (Z H : Hp) : Ow → Addr → List V → Prop
  | .sh, p, vs => Z p = some (.lst vs)
  | _, p, vs => H p = some (.lst vs)
def CAt (Z H : Hp) : Ow → Addr → HO → Prop
  | .sh, p, o => Z p = some o
  | _, p, o => H p = some o
def own : Ow → Addr → List Addr → List Addr
  | .sh, _, G => G
  | _, p, G => p :: G
mutual
def R (K : PySem.W.Frag) (FA : Nat → Addr → Prop) (Z H : Hp) : Ow → D → V → List Addr → Prop
  | _, .non, v, F => v = .non ∧ F = []
  | _, .bl b, v, F => v = .bl b ∧ F = []
  | _, .int i, v, F => v = .int i ∧ F = []
  | _, .str s, v, F => (v = .str s ∧ s.length ≤ line ∧ PyData.strOk s = true) ∧ F = []
  | _, .fn g, v, F => (∃ a, v = .ref a ∧ (FA g a ∨ ErrAt K Z g a)) ∧ F = []
  | _, .scr ns, v, F => (∃ p, v = .ref p ∧ SqL K Z p (ns.map V.int)) ∧ F = []
  | w, .tup ds, v, F => ∃ t vs, v = .ref t ∧ Z t = some (.tup vs) ∧ Rs K FA Z H (kid w) ds vs F
  | w, .lst ds, v, F => ∃ p vs G, v = .ref p ∧ LAt K Z H w p vs ∧ Rs K FA Z H (kid w) ds vs G ∧ F = own w p G
  | w, .dic t kvs, v, F => ∃ p G, v = .ref p ∧ ((t = false ∧ ∃ kv, CAt Z H w p (.dK kv) ∧ (kv.map (·.1)).Nodup ∧ RK K FA Z H (kid w) kvs kv G) ∨ (t = true ∧ ∃ kv, CAt Z H w p (.dT kv) ∧ (kv.map (·.1)).Nodup ∧ RT K FA Z H (kid w) kvs kv G)) ∧ F = own w p G
def Rs (K : PySem.W.Frag) (FA : Nat → Addr → Prop) (Z H : Hp) : Ow → List D → List V → List Addr → Prop
  | _, [], vs, F => vs = [] ∧ F = []
  | w, d :: ds, vs, F => ∃ v us A B, vs = v :: us ∧ R K FA Z H w d v A ∧ Rs K FA Z H w ds us B ∧ F = A ++ B
def RK (K : PySem.W.Frag) (FA : Nat → Addr → Prop) (Z H : Hp) : Ow → List (D × D) → List (Key × V) → List Addr → Prop
  | _, [], vs, F => vs = [] ∧ F = []
  | w, (a, d) :: ds, vs, F => ∃ k v us A B, vs = (k, v) :: us ∧ keyD a = some k ∧ R K FA Z H w d v A ∧ RK K FA Z H w ds us B ∧ F = A ++ B
def RT (K : PySem.W.Frag) (FA : Nat → Addr → Prop) (Z H : Hp) : Ow → List (D × D) → List (List Key × V) → List Addr → Prop
  | _, [], vs, F => vs = [] ∧ F = []
  | w, (a, d) :: ds, vs, F => ∃ k v us A B, vs = (k, v) :: us ∧ keyT a = some k ∧ R K FA Z H w d v A ∧ RT K FA Z H w ds us B ∧ F = A ++ B
end

section
variable {K : PySem.W.Frag} {FA : Nat → Addr → Prop} {Z Z' H H' : Hp}

theorem ErrAt.le (h : Le Z Z') {g a} (x : ErrAt K Z g a) : ErrAt K Z' g a := by
  obtain ⟨h0, h1, d, h2, h3⟩ := x
  refine ⟨h0, h1, d, h _ _ h2, ?_⟩
  cases hn : (exnOf g).2 with
  | zero => rw [hn] at h3; exact h3
  | succ n =>
    rw [hn] at h3
    obtain ⟨dx, e, q⟩ := h3
    exact ⟨dx, e, h _ _ q⟩
theorem SqT.le (h : Le Z Z') {t vs} (x : SqT K Z t vs) : SqT K Z' t vs := by
  rcases x with (x | ⟨o, x⟩) | x
  · exact .inl (.inl (h _ _ x))
  · exact .inl (.inr ⟨o, h _ _ x⟩)
  · exact .inr x
theorem SqL.le (h : Le Z Z') {t vs} (x : SqL K Z t vs) : SqL K Z' t vs := by
  rcases x with (x | ⟨o, x⟩) | x
  · exact .inl (.inl (h _ _ x))
  · exact .inl (.inr ⟨o, h _ _ x⟩)
  · exact .inr x
theorem SqT.sub (h : Sub Z H) {t vs} (x : SqT K Z t vs) : SqT K H t vs := by
  rcases x with (x | ⟨o, x⟩) | x
  · rcases h _ _ x with y | ⟨y, _⟩
    · exact .inl (.inl y)
    · exact y.elim
  · rcases h _ _ x with y | ⟨y, _⟩
    · exact .inl (.inr ⟨o, y⟩)
    · exact y.elim
  · exact .inr x
theorem SqL.sub (h : Sub Z H) {t vs} (x : SqL K Z t vs) : SqL K H t vs := by
  rcases x with (x | ⟨o, x⟩) | x
  · rcases h _ _ x with y | ⟨y, _⟩
    · exact .inl (.inl y)
    · exact y.elim
  · rcases h _ _ x with y | ⟨y, _⟩
    · exact .inl (.inr ⟨o, y⟩)
    · exact y.elim
  · exact .inr x
theorem LAt.sub (h : Sub Z H) {w p vs} (x : LAt K Z H w p vs) : SqL K H p vs := by
  cases w
  · rcases h _ _ x with y | ⟨y, _⟩
    · exact SqL.of y
    · exact y.elim
  · exact SqL.of x
  · exact SqL.of x
theorem LAt.sub' (h : Sub Z H) {w p vs} (x : LAt K Z H w p vs) : H p = some (.lst vs) := by
  cases w
  · rcases h _ _ x with y | ⟨y, _⟩
    · exact y
    · exact y.elim
  · exact x
  · exact x

theorem tup_sub (h : Sub Z H) {t vs} (x : Z t = some (.tup vs)) : H t = some (.tup vs) := by
  rcases h _ _ x with y | ⟨y, _⟩
  · exact y
  · exact y.elim
theorem CAt.sub (h : Sub Z H) {w p} {o : HO} (hd : isDic o) (x : CAt Z H w p o) : Rd H p o := by
  cases w
  · rcases h _ _ x with y | ⟨_, q, y⟩
    · exact .inl y
    · exact .inr ⟨q, y⟩
  · exact .inl x
  · exact .inl x


mutual
theorem R_sh : ∀ (d : D) {v F}, R K FA Z H .sh d v F → F = []
  | .non, _, _, h => h.2
  | .bl _, _, _, h => h.2
  | .int _, _, _, h => h.2
  | .str _, _, _, h => h.2
  | .fn _, _, _, h => h.2
  | .scr _, _, _, h => h.2
  | .tup ds, _, _, ⟨_, _, _, _, h⟩ => Rs_sh ds h
  | .lst ds, _, _, ⟨_, _, _, _, _, h, e⟩ => by rw [e]; exact Rs_sh ds h
  | .dic tt kvs, _, _, ⟨_, _, _, h, e⟩ => by
    rw [e]
    rcases h with ⟨_, _, _, _, h⟩ | ⟨_, _, _, _, h⟩
    · exact RK_sh kvs h
    · exact RT_sh kvs h
theorem Rs_sh : ∀ (l : List D) {v F}, Rs K FA Z H .sh l v F → F = []
  | [], _, _, h => h.2
  | d :: l, _, _, ⟨_, _, _, _, _, h1, h2, e⟩ => by rw [e, R_sh d h1, Rs_sh l h2]; rfl
theorem RK_sh : ∀ (l : List (D × D)) {v F}, RK K FA Z H .sh l v F → F = []
  | [], _, _, h => h.2
  | (_, d) :: l, _, _, ⟨_, _, _, _, _, _, _, h1, h2, e⟩ => by rw [e, R_sh d h1, RK_sh l h2]; rfl
theorem RT_sh : ∀ (l : List (D × D)) {v F}, RT K FA Z H .sh l v F → F = []
  | [], _, _, h => h.2
  | (_, d) :: l, _, _, ⟨_, _, _, _, _, _, _, h1, h2, e⟩ => by rw [e, R_sh d h1, RT_sh l h2]; rfl
end

mutual
theorem R_plain : ∀ (d : D) {w v F}, plain d = true → R K FA Z H w d v F → F = [] ∧ ∀ w' H', R K FA Z H' w' d v []
  | .non, _, _, _, _, h => ⟨h.2, fun _ _ => ⟨h.1, rfl⟩⟩
  | .bl _, _, _, _, _, h => ⟨h.2, fun _ _ => ⟨h.1, rfl⟩⟩
  | .int _, _, _, _, _, h => ⟨h.2, fun _ _ => ⟨h.1, rfl⟩⟩
  | .str _, _, _, _, _, h => ⟨h.2, fun _ _ => ⟨h.1, rfl⟩⟩
  | .fn _, _, _, _, _, h => ⟨h.2, fun _ _ => ⟨h.1, rfl⟩⟩
  | .scr _, _, _, _, _, h => ⟨h.2, fun _ _ => ⟨h.1, rfl⟩⟩
  | .tup ds, _, _, _, p, ⟨t, vs, e, q, h⟩ => ⟨(Rs_plain ds p h).1, fun w' H' => ⟨t, vs, e, q, (Rs_plain ds p h).2 _ _⟩⟩
  | .lst ds, _, _, _, p, _ => by simp at p
  | .dic tt kvs, _, _, _, p, _ => by simp at p
theorem Rs_plain : ∀ (l : List D) {w v F}, plains l = true → Rs K FA Z H w l v F → F = [] ∧ ∀ w' H', Rs K FA Z H' w' l v []
  | [], _, _, _, _, h => ⟨h.2, fun _ _ => ⟨h.1, rfl⟩⟩
  | d :: l, _, _, _, p, ⟨v, us, A, B, e0, h1, h2, e⟩ => by
    simp only [plains, Bool.and_eq_true] at p
    obtain ⟨rfl, k1⟩ := R_plain d p.1 h1
    obtain ⟨rfl, k2⟩ := Rs_plain l p.2 h2
    exact ⟨e, fun w' H' => ⟨v, us, [], [], e0, k1 _ _, k2 _ _, rfl⟩⟩
end

mutual
theorem R_keep (hz : Le Z Z') : ∀ (d : D) {w v F}, (∀ a ∈ F, H' a = H a) → R K FA Z H w d v F → R K FA Z' H' w d v F
  | .non, _, _, _, _, h => h
  | .bl _, _, _, _, _, h => h
  | .int _, _, _, _, _, h => h
  | .str _, _, _, _, _, h => h
  | .fn _, _, _, _, _, ⟨⟨a, e, q⟩, ef⟩ => ⟨⟨a, e, q.imp id (ErrAt.le hz)⟩, ef⟩
  | .scr _, _, _, _, _, ⟨⟨p, e, q⟩, ef⟩ => ⟨⟨p, e, SqL.le hz q⟩, ef⟩
  | .tup ds, _, _, _, f, ⟨t, vs, e, q, h⟩ => ⟨t, vs, e, hz _ _ q, Rs_keep hz ds f h⟩
  | .lst ds, w, _, _, f, ⟨p, vs, G, e, q, h, ef⟩ => by
    subst ef
    cases w
    · exact ⟨p, vs, G, e, hz _ _ q, Rs_keep hz ds f h, rfl⟩
    · exact ⟨p, vs, G, e, (f p List.mem_cons_self).trans q, Rs_keep hz ds (fun a ha => f a (List.mem_cons_of_mem _ ha)) h, rfl⟩
    · exact ⟨p, vs, G, e, (f p List.mem_cons_self).trans q, Rs_keep hz ds (fun a ha => f a (List.mem_cons_of_mem _ ha)) h, rfl⟩
  | .dic tt kvs, w, _, _, f, ⟨p, G, e, q, ef⟩ => by
    subst ef
    cases w
    · refine ⟨p, G, e, ?_, rfl⟩
      rcases q with ⟨et, kv, c, hn, h⟩ | ⟨et, kv, c, hn, h⟩
      · exact .inl ⟨et, kv, hz _ _ c, hn, RK_keep hz kvs f h⟩
      · exact .inr ⟨et, kv, hz _ _ c, hn, RT_keep hz kvs f h⟩
    · refine ⟨p, G, e, ?_, rfl⟩
      rcases q with ⟨et, kv, c, hn, h⟩ | ⟨et, kv, c, hn, h⟩
      · exact .inl ⟨et, kv, (f p List.mem_cons_self).trans c, hn, RK_keep hz kvs (fun a ha => f a (List.mem_cons_of_mem _ ha)) h⟩
      · exact .inr ⟨et, kv, (f p List.mem_cons_self).trans c, hn, RT_keep hz kvs (fun a ha => f a (List.mem_cons_of_mem _ ha)) h⟩
    · refine ⟨p, G, e, ?_, rfl⟩
      rcases q with ⟨et, kv, c, hn, h⟩ | ⟨et, kv, c, hn, h⟩
      · exact .inl ⟨et, kv, (f p List.mem_cons_self).trans c, hn, RK_keep hz kvs (fun a ha => f a (List.mem_cons_of_mem _ ha)) h⟩
      · exact .inr ⟨et, kv, (f p List.mem_cons_self).trans c, hn, RT_keep hz kvs (fun a ha => f a (List.mem_cons_of_mem _ ha)) h⟩
theorem Rs_keep (hz : Le Z Z') : ∀ (l : List D) {w v F}, (∀ a ∈ F, H' a = H a) → Rs K FA Z H w l v F → Rs K FA Z' H' w l v F
  | [], _, _, _, _, h => h
  | d :: l, _, _, _, f, ⟨v, us, A, B, e0, h1, h2, e⟩ => by
    subst e
    exact ⟨v, us, A, B, e0, R_keep hz d (fun a ha => f a (List.mem_append_left _ ha)) h1, Rs_keep hz l (fun a ha => f a (List.mem_append_right _ ha)) h2, rfl⟩
theorem RK_keep (hz : Le Z Z') : ∀ (l : List (D × D)) {w v F}, (∀ a ∈ F, H' a = H a) → RK K FA Z H w l v F → RK K FA Z' H' w l v F
  | [], _, _, _, _, h => h
  | (_, d) :: l, _, _, _, f, ⟨k, v, us, A, B, e0, ek, h1, h2, e⟩ => by
    subst e
    exact ⟨k, v, us, A, B, e0, ek, R_keep hz d (fun a ha => f a (List.mem_append_left _ ha)) h1, RK_keep hz l (fun a ha => f a (List.mem_append_right _ ha)) h2, rfl⟩
theorem RT_keep (hz : Le Z Z') : ∀ (l : List (D × D)) {w v F}, (∀ a ∈ F, H' a = H a) → RT K FA Z H w l v F → RT K FA Z' H' w l v F
  | [], _, _, _, _, h => h
  | (_, d) :: l, _, _, _, f, ⟨k, v, us, A, B, e0, ek, h1, h2, e⟩ => by
    subst e
    exact ⟨k, v, us, A, B, e0, ek, R_keep hz d (fun a ha => f a (List.mem_append_left _ ha)) h1, RT_keep hz l (fun a ha => f a (List.mem_append_right _ ha)) h2, rfl⟩
end

mutual
theorem R_share (hz : Le Z Z') : ∀ (d : D) {w v F}, (∀ a ∈ F, Z' a = H a) → R K FA Z H w d v F → R K FA Z' H' .sh d v []
  | .non, _, _, _, _, h => ⟨h.1, rfl⟩
  | .bl _, _, _, _, _, h => ⟨h.1, rfl⟩
  | .int _, _, _, _, _, h => ⟨h.1, rfl⟩
  | .str _, _, _, _, _, h => ⟨h.1, rfl⟩
  | .fn _, _, _, _, _, ⟨⟨a, e, q⟩, ef⟩ => ⟨⟨a, e, q.imp id (ErrAt.le hz)⟩, rfl⟩
  | .scr _, _, _, _, _, ⟨⟨p, e, q⟩, ef⟩ => ⟨⟨p, e, SqL.le hz q⟩, rfl⟩
  | .tup ds, _, _, _, f, ⟨t, vs, e, q, h⟩ => ⟨t, vs, e, hz _ _ q, Rs_share hz ds f h⟩
  | .lst ds, w, _, _, f, ⟨p, vs, G, e, q, h, ef⟩ => by
    subst ef
    cases w
    · exact ⟨p, vs, [], e, hz _ _ q, Rs_share hz ds f h, rfl⟩
    · exact ⟨p, vs, [], e, (f p List.mem_cons_self).trans q, Rs_share hz ds (fun a ha => f a (List.mem_cons_of_mem _ ha)) h, rfl⟩
    · exact ⟨p, vs, [], e, (f p List.mem_cons_self).trans q, Rs_share hz ds (fun a ha => f a (List.mem_cons_of_mem _ ha)) h, rfl⟩
  | .dic tt kvs, w, _, _, f, ⟨p, G, e, q, ef⟩ => by
    subst ef
    cases w
    · refine ⟨p, [], e, ?_, rfl⟩
      rcases q with ⟨et, kv, c, hn, h⟩ | ⟨et, kv, c, hn, h⟩
      · exact .inl ⟨et, kv, hz _ _ c, hn, RK_share hz kvs f h⟩
      · exact .inr ⟨et, kv, hz _ _ c, hn, RT_share hz kvs f h⟩
    · refine ⟨p, [], e, ?_, rfl⟩
      rcases q with ⟨et, kv, c, hn, h⟩ | ⟨et, kv, c, hn, h⟩
      · exact .inl ⟨et, kv, (f p List.mem_cons_self).trans c, hn, RK_share hz kvs (fun a ha => f a (List.mem_cons_of_mem _ ha)) h⟩
      · exact .inr ⟨et, kv, (f p List.mem_cons_self).trans c, hn, RT_share hz kvs (fun a ha => f a (List.mem_cons_of_mem _ ha)) h⟩
    · refine ⟨p, [], e, ?_, rfl⟩
      rcases q with ⟨et, kv, c, hn, h⟩ | ⟨et, kv, c, hn, h⟩
      · exact .inl ⟨et, kv, (f p List.mem_cons_self).trans c, hn, RK_share hz kvs (fun a ha => f a (List.mem_cons_of_mem _ ha)) h⟩
      · exact .inr ⟨et, kv, (f p List.mem_cons_self).trans c, hn, RT_share hz kvs (fun a ha => f a (List.mem_cons_of_mem _ ha)) h⟩
theorem Rs_share (hz : Le Z Z') : ∀ (l : List D) {w v F}, (∀ a ∈ F, Z' a = H a) → Rs K FA Z H w l v F → Rs K FA Z' H' .sh l v []
  | [], _, _, _, _, h => ⟨h.1, rfl⟩
  | d :: l, _, _, _, f, ⟨v, us, A, B, e0, h1, h2, e⟩ => by
    subst e
    exact ⟨v, us, [], [], e0, R_share hz d (fun a ha => f a (List.mem_append_left _ ha)) h1, Rs_share hz l (fun a ha => f a (List.mem_append_right _ ha)) h2, rfl⟩
theorem RK_share (hz : Le Z Z') : ∀ (l : List (D × D)) {w v F}, (∀ a ∈ F, Z' a = H a) → RK K FA Z H w l v F → RK K FA Z' H' .sh l v []
  | [], _, _, _, _, h => ⟨h.1, rfl⟩
  | (_, d) :: l, _, _, _, f, ⟨k, v, us, A, B, e0, ek, h1, h2, e⟩ => by
    subst e
    exact ⟨k, v, us, [], [], e0, ek, R_share hz d (fun a ha => f a (List.mem_append_left _ ha)) h1, RK_share hz l (fun a ha => f a (List.mem_append_right _ ha)) h2, rfl⟩
theorem RT_share (hz : Le Z Z') : ∀ (l : List (D × D)) {w v F}, (∀ a ∈ F, Z' a = H a) → RT K FA Z H w l v F → RT K FA Z' H' .sh l v []
  | [], _, _, _, _, h => ⟨h.1, rfl⟩
  | (_, d) :: l, _, _, _, f, ⟨k, v, us, A, B, e0, ek, h1, h2, e⟩ => by
    subst e
    exact ⟨k, v, us, [], [], e0, ek, R_share hz d (fun a ha => f a (List.mem_append_left _ ha)) h1, RT_share hz l (fun a ha => f a (List.mem_append_right _ ha)) h2, rfl⟩
end
end
end BS

set_option Elab.async false
set_option linter.all false
set_option maxRecDepth 100000
set_option maxHeartbeats 1000000
namespace BS
open PySem PySem.Spec PyProof.Rows L2
section
variable {K : PySem.W.Frag} {FA : Nat → Addr → Prop} {Z Z' H H' : Hp}

mutual
theorem R_there : ∀ (d : D) {w v F a}, R K FA Z H w d v F → a ∈ F → H a ≠ none
  | .non, _, _, _, _, h, m => by rw [h.2] at m; cases m
  | .bl _, _, _, _, _, h, m => by rw [h.2] at m; cases m
  | .int _, _, _, _, _, h, m => by rw [h.2] at m; cases m
  | .str _, _, _, _, _, h, m => by rw [h.2] at m; cases m
  | .fn _, _, _, _, _, h, m => by rw [h.2] at m; cases m
  | .scr _, _, _, _, _, h, m => by rw [h.2] at m; cases m
  | .tup ds, _, _, _, _, ⟨t, vs, e, q, h⟩, m => Rs_there ds h m
  | .lst ds, w, _, _, a, ⟨p, vs, G, e, q, h, ef⟩, m => by
    subst ef
    cases w
    · exact Rs_there ds h m
    · rcases List.mem_cons.mp m with rfl | m
      · intro z
        rw [show H a = some (.lst vs) from q] at z
        cases z
      · exact Rs_there ds h m
    · rcases List.mem_cons.mp m with rfl | m
      · intro z
        rw [show H a = some (.lst vs) from q] at z
        cases z
      · exact Rs_there ds h m
  | .dic tt kvs, w, _, _, a, ⟨p, G, e, q, ef⟩, m => by
    subst ef
    have hd : w ≠ .sh → H p ≠ none := fun hw z => by
      rcases q with ⟨et, kv, c, hn, h⟩ | ⟨et, kv, c, hn, h⟩
      · cases w
        · exact hw rfl
        · rw [show H p = some (.dK kv) from c] at z
          cases z
        · rw [show H p = some (.dK kv) from c] at z
          cases z
      · cases w
        · exact hw rfl
        · rw [show H p = some (.dT kv) from c] at z
          cases z
        · rw [show H p = some (.dT kv) from c] at z
          cases z
    have hk : a ∈ G → H a ≠ none := fun m => by
      rcases q with ⟨et, kv, c, hn, h⟩ | ⟨et, kv, c, hn, h⟩
      · exact RK_there kvs h m
      · exact RT_there kvs h m
    cases w
    · exact hk m
    · rcases List.mem_cons.mp m with rfl | m
      · exact hd (by decide)
      · exact hk m
    · rcases List.mem_cons.mp m with rfl | m
      · exact hd (by decide)
      · exact hk m
theorem Rs_there : ∀ (l : List D) {w v F a}, Rs K FA Z H w l v F → a ∈ F → H a ≠ none
  | [], _, _, _, _, h, m => by rw [h.2] at m; cases m
  | d :: l, _, _, _, _, ⟨v, us, A, B, e0, h1, h2, e⟩, m => by
    subst e
    rcases List.mem_append.mp m with m | m
    · exact R_there d h1 m
    · exact Rs_there l h2 m
theorem RK_there : ∀ (l : List (D × D)) {w v F a}, RK K FA Z H w l v F → a ∈ F → H a ≠ none
  | [], _, _, _, _, h, m => by rw [h.2] at m; cases m
  | (_, d) :: l, _, _, _, _, ⟨k, v, us, A, B, e0, _, h1, h2, e⟩, m => by
    subst e
    rcases List.mem_append.mp m with m | m
    · exact R_there d h1 m
    · exact RK_there l h2 m
theorem RT_there : ∀ (l : List (D × D)) {w v F a}, RT K FA Z H w l v F → a ∈ F → H a ≠ none
  | [], _, _, _, _, h, m => by rw [h.2] at m; cases m
  | (_, d) :: l, _, _, _, _, ⟨k, v, us, A, B, e0, _, h1, h2, e⟩, m => by
    subst e
    rcases List.mem_append.mp m with m | m
    · exact R_there d h1 m
    · exact RT_there l h2 m
end
theorem R_vl {d : D} {w : Ow} {v : V} {F : List Addr} (h : R K FA Z H w d v F) : R K FA Z H (vl d w).2 (vl d w).1 v F := by
  unfold vl
  cases e : plain d with
  | true =>
    obtain ⟨rfl, k⟩ := R_plain d e h
    simp only [if_true]
    exact k _ _
  | false =>
    simpa using h


def RO (K : PySem.W.Frag) (FA : Nat → Addr → Prop) (Z H : Hp) : Option Val → Option V → List Addr → Prop
  | some x, some v, F => R K FA Z H x.2 x.1 v F
  | none, _, F => F = []
  | some _, none, _ => False
def RE (K : PySem.W.Frag) (FA : Nat → Addr → Prop) (Z H : Hp) : En → Sl → List (List Addr) → Prop
  | [], [], [] => True
  | x :: E, v :: σ, F :: Fs => RO K FA Z H x v F ∧ RE K FA Z H E σ Fs
  | _, _, _ => False
theorem RE.length : ∀ {E : En} {σ : Sl} {Fs : List (List Addr)}, RE K FA Z H E σ Fs → E.length = σ.length ∧ Fs.length = σ.length
  | [], [], [], _ => ⟨rfl, rfl⟩
  | x :: E, v :: σ, F :: Fs, h => by
    obtain ⟨a, b⟩ := RE.length h.2
    exact ⟨by simp [a], by simp [b]⟩
  | [], [], _ :: _, h => h.elim
  | [], _ :: _, _, h => h.elim
  | _ :: _, [], _, h => h.elim
  | _ :: _, _ :: _, [], h => h.elim
theorem RE.get : ∀ {E : En} {σ : Sl} {Fs : List (List Addr)} {i : Nat} {x : Option Val}, RE K FA Z H E σ Fs → E[i]? = some x → ∃ v, σ[i]? = some v ∧ RO K FA Z H x v (Fs.getD i [])
  | y :: E, v :: σ, F :: Fs, 0, x, h, e => by
    have e : y = x := by simpa using e
    subst e
    exact ⟨v, rfl, h.1⟩
  | _ :: E, _ :: σ, _ :: Fs, i + 1, x, h, e => by
    obtain ⟨v, a, b⟩ := RE.get (i := i) (x := x) h.2 (by simpa using e)
    exact ⟨v, by simpa using a, by simpa using b⟩
  | [], _, _, _, _, _, e => by simp at e
  | _ :: _, [], _, _, _, h, _ => h.elim
  | _ :: _, _ :: _, [], _, _, h, _ => h.elim
theorem RE.set : ∀ {E : En} {σ : Sl} {Fs : List (List Addr)} {i : Nat} {x : Option Val} {v : Option V} {F : List Addr}, RE K FA Z H E σ Fs → RO K FA Z H x v F → RE K FA Z H (E.set i x) (σ.set i v) (Fs.set i F)
  | [], [], [], _, _, _, _, _, _ => trivial
  | _ :: _, _ :: _, _ :: _, 0, _, _, _, h, r => ⟨r, h.2⟩
  | _ :: _, _ :: _, _ :: _, i + 1, _, _, _, h, r => ⟨h.1, RE.set h.2 r⟩
  | [], [], _ :: _, _, _, _, _, h, _ => h.elim
  | [], _ :: _, _, _, _, _, _, h, _ => h.elim
  | _ :: _, [], _, _, _, _, _, h, _ => h.elim
  | _ :: _, _ :: _, [], _, _, _, _, h, _ => h.elim
theorem set_self {α : Type} : ∀ {l : List α} {i : Nat} {x : α}, l[i]? = some x → l.set i x = l
  | _ :: _, 0, _, e => by simp at e; rw [e]; rfl
  | _ :: l, i + 1, x, e => by
    rw [List.set_cons_succ, set_self (l := l) (i := i) (x := x) (by simpa using e)]
  | [], _, _, e => by simp at e

theorem RE.turn {E : En} {σ : Sl} {Fs : List (List Addr)} {i : Nat} {x : Option Val} {v : Option V} {F : List Addr} (h : RE K FA Z H E σ Fs) (e : σ[i]? = some v) (r : RO K FA Z H x v F) : RE K FA Z H (E.set i x) σ (Fs.set i F) := by
  have := h.set (i := i) r
  rwa [set_self e] at this
theorem RE.keep (hz : Le Z Z') : ∀ {E : En} {σ : Sl} {Fs : List (List Addr)}, (∀ a ∈ Fs.flatten, H' a = H a) → RE K FA Z H E σ Fs → RE K FA Z' H' E σ Fs
  | [], [], [], _, _ => trivial
  | x :: E, v :: σ, F :: Fs, f, h => by
    refine ⟨?_, RE.keep hz (fun a ha => f a (by rw [List.flatten_cons]; exact List.mem_append_right _ ha)) h.2⟩
    have h1 := h.1
    cases x with
    | none => exact h1
    | some x =>
      cases v with
      | none => exact h1
      | some v => exact R_keep hz _ (fun a ha => f a (by rw [List.flatten_cons]; exact List.mem_append_left _ ha)) h1
  | [], [], _ :: _, _, h => h.elim
  | [], _ :: _, _, _, h => h.elim
  | _ :: _, [], _, _, h => h.elim
  | _ :: _, _ :: _, [], _, h => h.elim
theorem RE.there : ∀ {E : En} {σ : Sl} {Fs : List (List Addr)} {a : Addr}, RE K FA Z H E σ Fs → a ∈ Fs.flatten → H a ≠ none
  | [], [], [], _, _, m => by simp at m
  | x :: E, v :: σ, F :: Fs, a, h, m => by
    rw [List.flatten_cons] at m
    rcases List.mem_append.mp m with m | m
    · have h1 := h.1
      cases x with
      | none =>
        rw [show F = [] from h1] at m
        cases m
      | some x =>
        cases v with
        | none => exact h1.elim
        | some v => exact R_there _ h1 m
    · exact RE.there h.2 m
  | [], [], _ :: _, _, h, _ => h.elim
  | [], _ :: _, _, _, h, _ => h.elim
  | _ :: _, [], _, _, h, _ => h.elim
  | _ :: _, _ :: _, [], _, h, _ => h.elim


theorem mem_flat {Fs : List (List Addr)} {i : Nat} {a : Addr} (h : a ∈ Fs.getD i []) : a ∈ Fs.flatten := by
  rw [List.getD_eq_getElem?_getD] at h
  cases e : Fs[i]? with
  | none => rw [e] at h; cases h
  | some F =>
    rw [e] at h
    exact List.mem_flatten.mpr ⟨F, List.mem_of_getElem? e, h⟩
theorem of_flat {Fs : List (List Addr)} {a : Addr} (h : a ∈ Fs.flatten) : ∃ i, a ∈ Fs.getD i [] := by
  obtain ⟨F, hF, ha⟩ := List.mem_flatten.mp h
  obtain ⟨i, hi⟩ := List.getElem?_of_mem hF
  exact ⟨i, by rw [List.getD_eq_getElem?_getD, hi]; exact ha⟩
theorem flat_inj : ∀ {Fs : List (List Addr)} {i j : Nat} {a : Addr}, Fs.flatten.Nodup → a ∈ Fs.getD i [] → a ∈ Fs.getD j [] → i = j
  | [], i, _, _, _, h, _ => by simp at h
  | F :: Fs, 0, 0, _, _, _, _ => rfl
  | F :: Fs, 0, j + 1, a, n, h, h' => by
    rw [List.flatten_cons, List.nodup_append] at n
    exact absurd rfl (n.2.2 a (by simpa using h) a (mem_flat (i := j) (by simpa using h')))
  | F :: Fs, i + 1, 0, a, n, h, h' => by
    rw [List.flatten_cons, List.nodup_append] at n
    exact absurd rfl (n.2.2 a (by simpa using h') a (mem_flat (i := i) (by simpa using h)))
  | F :: Fs, i + 1, j + 1, a, n, h, h' => by
    rw [List.flatten_cons, List.nodup_append] at n
    exact congrArg (· + 1) (flat_inj (Fs := Fs) (i := i) (j := j) n.2.1 (by simpa using h) (by simpa using h'))
theorem getD_set {Fs : List (List Addr)} {i j : Nat} {F : List Addr} {a : Addr} (h : a ∈ (Fs.set i F).getD j []) : (i = j ∧ a ∈ F) ∨ (i ≠ j ∧ a ∈ Fs.getD j []) := by
  rw [List.getD_eq_getElem?_getD] at h
  by_cases e : i = j
  · subst e
    by_cases hl : i < Fs.length
    · rw [List.getElem?_set_self hl] at h
      exact .inl ⟨rfl, h⟩
    · rw [List.getElem?_eq_none (by simpa using hl)] at h
      cases h
  · rw [List.getElem?_set_ne e] at h
    exact .inr ⟨e, by rw [List.getD_eq_getElem?_getD]; exact h⟩

theorem nodup_set : ∀ {Fs : List (List Addr)} {i : Nat} {F L : List Addr}, (L ++ Fs.flatten).Nodup → (F ++ (L ++ (Fs.set i []).flatten)).Nodup → (L ++ (Fs.set i F).flatten).Nodup
  | [], i, F, L, _, h => by
    have := h
    simp only [List.set_nil] at this ⊢
    exact (List.nodup_append.mp this).2.1
  | G :: Fs, 0, F, L, _, h => by
    simp only [List.set_cons_zero, List.flatten_cons, List.nil_append] at h ⊢
    have e : (F ++ (L ++ Fs.flatten)).Perm (L ++ (F ++ Fs.flatten)) := by
      rw [← List.append_assoc, ← List.append_assoc]
      exact List.Perm.append_right _ List.perm_append_comm
    exact e.nodup_iff.mp h
  | G :: Fs, i + 1, F, L, n, h => by
    simp only [List.set_cons_succ, List.flatten_cons] at n h ⊢
    rw [← List.append_assoc] at n ⊢
    refine nodup_set n ?_
    rw [List.append_assoc]
    exact h
theorem nodup_unset : ∀ {Fs : List (List Addr)} {i : Nat} {L : List Addr}, (L ++ Fs.flatten).Nodup → (L ++ (Fs.set i []).flatten).Nodup
  | [], _, _, h => h
  | G :: Fs, 0, L, h => by
    simp only [List.set_cons_zero, List.flatten_cons, List.nil_append] at h ⊢
    have := List.nodup_append.mp h
    refine List.nodup_append.mpr ⟨this.1, (List.nodup_append.mp this.2.1).2.1, fun a ha b hb => this.2.2 a ha b (List.mem_append_right _ hb)⟩
  | G :: Fs, i + 1, L, h => by
    simp only [List.set_cons_succ, List.flatten_cons] at h ⊢
    rw [← List.append_assoc] at h ⊢
    exact nodup_unset h
theorem mem_unset {Fs : List (List Addr)} {i : Nat} {a : Addr} (h : a ∈ (Fs.set i []).flatten) : a ∈ Fs.flatten := by
  obtain ⟨j, hj⟩ := of_flat h
  rcases getD_set hj with ⟨_, z⟩ | ⟨_, z⟩
  · cases z
  · exact mem_flat z


def WC (Fs : List (List Addr)) (w : List Nat) (a : Addr) : Prop := ∃ i, i ∈ w ∧ a ∈ Fs.getD i []
theorem WC.flat {Fs : List (List Addr)} {w : List Nat} {a : Addr} (h : WC Fs w a) : a ∈ Fs.flatten := let ⟨_, _, z⟩ := h; mem_flat z
theorem WC.mono {Fs : List (List Addr)} {w w' : List Nat} {a : Addr} (h : WC Fs w a) (s : ∀ i ∈ w, i ∈ w') : WC Fs w' a := let ⟨i, x, z⟩ := h; ⟨i, s i x, z⟩


def inn : Bool → Option Val → List Addr → List Addr
  | true, some (.lst _, _), F => F.tail
  | true, some (.dic _ _, _), F => F.tail
  | _, _, F => F
theorem inn_sub {b : Bool} {o : Option Val} {F : List Addr} {a : Addr} (h : a ∈ inn b o F) : a ∈ F := by
  unfold inn at h
  split at h
  · exact List.mem_of_mem_tail h
  · exact List.mem_of_mem_tail h
  · exact h


structure Stt (K : PySem.W.Frag) (FA : Nat → Addr → Prop) (Z H : Hp) (E : En) (σ : Sl) (Fs : List (List Addr)) : Prop where
  sub : Sub Z H
  re : RE K FA Z H E σ Fs
  nd : Fs.flatten.Nodup
  zf : ∀ a ∈ Fs.flatten, Z a = none

structure Chg (w : List Nat) (Z H : Hp) (E : En) (Fs : List (List Addr)) (Z' H' : Hp) (E' : En) (Fs' : List (List Addr)) : Prop where
  le : Le Z Z'
  zn : ∀ a u, Z' a = some u → Z a = some u ∨ a ∈ Fs.flatten ∨ H a = none
  fr : ∀ i a, a ∈ Fs'.getD i [] → a ∈ Fs.getD i [] ∨ H a = none ∨ WC Fs w a
  frame : ∀ a u, H a = some u → ¬ WC Fs w a → H' a = some u
  there : ∀ a, H a ≠ none → H' a ≠ none
  same : ∀ i, i ∉ w → E'[i]? = E[i]? ∧ Fs'.getD i [] = Fs.getD i []
theorem Chg.refl (Z H : Hp) (E : En) (Fs : List (List Addr)) (w : List Nat) : Chg w Z H E Fs Z H E Fs :=
  ⟨Le.refl Z, fun _ _ h => .inl h, fun _ _ h => .inl h, fun _ _ h _ => h, fun _ h => h, fun _ _ => ⟨rfl, rfl⟩⟩
section
variable {w w2 : List Nat} {E E' E1 E2 : En} {Fs Fs' Fs1 Fs2 : List (List Addr)} {Z1 Z2 H1 H2 : Hp} {a : Addr}
theorem Chg.free (c : Chg w Z H E Fs Z' H' E' Fs') (h : H' a = none) : H a = none := by
  cases e : H a with
  | none => rfl
  | some u => exact absurd h (c.there a (by rw [e]; exact fun z => by cases z))
theorem Chg.mono (c : Chg w Z H E Fs Z' H' E' Fs') (s : ∀ i ∈ w, i ∈ w2) : Chg w2 Z H E Fs Z' H' E' Fs' :=
  ⟨c.le, c.zn, fun i a h => (c.fr i a h).imp id (Or.imp id fun z => z.mono s), fun a u h n => c.frame a u h fun z => n (z.mono s), c.there, fun i h => c.same i fun z => h (s i z)⟩
theorem Chg.flat (c : Chg w Z H E Fs Z' H' E' Fs') (h : a ∈ Fs'.flatten) : a ∈ Fs.flatten ∨ H a = none := by
  obtain ⟨i, hi⟩ := of_flat h
  rcases c.fr i a hi with z | z | z
  · exact .inl (mem_flat z)
  · exact .inr z
  · exact .inl z.flat
theorem Chg.wc (c : Chg w Z H E Fs Z' H' E' Fs') (h : WC Fs' w2 a) : WC Fs (w ++ w2) a ∨ H a = none := by
  obtain ⟨i, hi, ha⟩ := h
  rcases c.fr i a ha with z | z | z
  · exact .inl ⟨i, List.mem_append_right _ hi, z⟩
  · exact .inr z
  · exact .inl (z.mono fun i hi => List.mem_append_left _ hi)
theorem Chg.trans (c : Chg w Z H E Fs Z1 H1 E1 Fs1) (d : Chg w2 Z1 H1 E1 Fs1 Z2 H2 E2 Fs2) : Chg (w ++ w2) Z H E Fs Z2 H2 E2 Fs2 where
  le := c.le.trans d.le
  zn := fun a u h => by
    rcases d.zn a u h with z | z | z
    · exact c.zn a u z
    · exact .inr (c.flat z)
    · exact .inr (.inr (c.free z))
  fr := fun i a h => by
    rcases d.fr i a h with z | z | z
    · rcases c.fr i a z with y | y | y
      · exact .inl y
      · exact .inr (.inl y)
      · exact .inr (.inr (y.mono fun i hi => List.mem_append_left _ hi))
    · exact .inr (.inl (c.free z))
    · rcases c.wc z with y | y
      · exact .inr (.inr y)
      · exact .inr (.inl y)
  frame := fun a u h n => by
    have h1 := c.frame a u h fun z => n (z.mono fun i hi => List.mem_append_left _ hi)
    refine d.frame a u h1 fun z => ?_
    rcases c.wc z with y | y
    · exact n y
    · rw [y] at h; cases h
  there := fun a h => d.there a (c.there a h)
  same := fun i h => by
    obtain ⟨a1, b1⟩ := c.same i fun z => h (List.mem_append_left _ z)
    obtain ⟨a2, b2⟩ := d.same i fun z => h (List.mem_append_right _ z)
    exact ⟨a2.trans a1, b2.trans b1⟩
end

structure Pe (K : PySem.W.Frag) (FA : Nat → Addr → Prop) (w : List Nat) (pr : Option (Nat × Bool)) (Z H : Hp) (E : En) (Fs : List (List Addr)) (σ : Sl) (x : Val) (E' : En) (v : V) (Z' H' : Hp) (Fd : List Addr) (Fs' : List (List Addr)) : Prop where
  st : Stt K FA Z' H' E' σ Fs'
  ch : Chg w Z H E Fs Z' H' E' Fs'
  val : R K FA Z' H' x.2 x.1 v Fd
  ex : pr = none → (Fd ++ Fs'.flatten).Nodup ∧ (∀ a ∈ Fd, Z' a = none) ∧ ∀ a ∈ Fd, H a = none ∨ WC Fs w a
  pl : ∀ i b, pr = some (i, b) → (∀ a ∈ Fd, a ∈ inn b (E'.getD i none) (Fs'.getD i [])) ∧ (b = false → E'.getD i none = some x ∧ Fs'.getD i [] = Fd)
section
variable {w w2 : List Nat} {pr pr2 : Option (Nat × Bool)} {Z1 Z2 H1 H2 : Hp} {Fs Fs1 Fs2 : List (List Addr)} {σ : Sl} {x y : Val} {E E1 E2 : En} {v u : V} {Fd Fd2 : List Addr}
theorem Pe.trans (p : Pe K FA w pr Z H E Fs σ x E1 v Z1 H1 Fd Fs1) (q : Pe K FA w2 pr2 Z1 H1 E1 Fs1 σ y E2 u Z2 H2 Fd2 Fs2) : Pe K FA (w ++ w2) pr2 Z H E Fs σ y E2 u Z2 H2 Fd2 Fs2 where
  st := q.st
  ch := p.ch.trans q.ch
  val := q.val
  ex := fun e => by
    obtain ⟨a, b, c⟩ := q.ex e
    refine ⟨a, b, fun z hz => ?_⟩
    rcases c z hz with y | y
    · exact .inl (p.ch.free y)
    · exact (p.ch.wc y).symm
  pl := q.pl
theorem Pe.mono (p : Pe K FA w pr Z H E Fs σ x E1 v Z' H' Fd Fs1) (s : ∀ i ∈ w, i ∈ w2) : Pe K FA w2 pr Z H E Fs σ x E1 v Z' H' Fd Fs1 :=
  ⟨p.st, p.ch.mono s, p.val, fun e => let ⟨a, b, c⟩ := p.ex e; ⟨a, b, fun z hz => (c z hz).imp id fun y => y.mono s⟩, p.pl⟩

theorem Pe.keep (p : Pe K FA w pr Z H E Fs σ x E1 v Z1 H1 Fd Fs1) (q : Chg w2 Z1 H1 E1 Fs1 Z2 H2 E2 Fs2) (h : ∀ i b, pr = some (i, b) → plain x.1 = true ∨ i ∉ w2) :
    (∀ a ∈ Fd, H2 a = H1 a) ∧ R K FA Z2 H2 x.2 x.1 v Fd := by
  have key : ∀ a ∈ Fd, H2 a = H1 a := fun a ha => by
    have ht := R_there _ p.val ha
    cases e : H1 a with
    | none => exact absurd e ht
    | some o =>
      refine q.frame a o e fun z => ?_
      cases pr with
      | none =>
        obtain ⟨nd, _⟩ := p.ex rfl
        exact absurd rfl ((List.nodup_append.mp nd).2.2 a ha a z.flat)
      | some ib =>
        obtain ⟨i, b⟩ := ib
        rcases h i b rfl with pp | ni
        · obtain ⟨e, _⟩ := R_plain _ pp p.val
          rw [e] at ha
          cases ha
        · obtain ⟨j, hj, haj⟩ := z
          have := flat_inj p.st.nd (inn_sub ((p.pl i b rfl).1 a ha)) haj
          exact ni (this ▸ hj)
  exact ⟨key, R_keep q.le _ key p.val⟩

theorem Pe.apart (p : Pe K FA w none Z H E Fs σ x E1 v Z1 H1 Fd Fs1) (q : Chg w2 Z1 H1 E1 Fs1 Z2 H2 E2 Fs2) : (∀ a ∈ Fd, a ∉ Fs2.flatten) ∧ (∀ a ∈ Fd, Z2 a = none) ∧ (∀ a ∈ Fd, ¬ (H1 a = none ∨ WC Fs1 w2 a)) := by
  obtain ⟨nd, zf, _⟩ := p.ex rfl
  have n1 : ∀ a ∈ Fd, a ∉ Fs1.flatten := fun a ha hb => absurd rfl ((List.nodup_append.mp nd).2.2 a ha a hb)
  refine ⟨fun a ha hb => ?_, fun a ha => ?_, fun a ha => ?_⟩
  · rcases q.flat hb with z | z
    · exact n1 a ha z
    · exact R_there _ p.val ha z
  · cases e : Z2 a with
    | none => rfl
    | some u =>
      rcases q.zn a u e with z | z | z
      · rw [zf a ha] at z; cases z
      · exact absurd z (n1 a ha)
      · exact absurd z (R_there _ p.val ha)
  · rintro (z | z)
    · exact R_there _ p.val ha z
    · exact n1 a ha z.flat

theorem Pe.plain (p : Pe K FA w pr Z H E Fs σ x E1 v Z1 H1 Fd Fs1) {d : D} {u : V} (hr : ∀ w, R K FA Z1 H1 w d u []) : Pe K FA w none Z H E Fs σ (d, .deep) E1 u Z1 H1 [] Fs1 :=
  ⟨p.st, p.ch, hr _, fun _ => ⟨by simpa using p.st.nd, fun _ h => (by cases h), fun _ h => (by cases h)⟩, fun _ _ h => (by cases h)⟩
end
end
end BS

set_option Elab.async false
set_option linter.all false
set_option maxRecDepth 100000
set_option maxHeartbeats 1000000
namespace BS
open PySem PySem.Spec PyProof.Rows L2

structure Bk where
  K : PySem.W.Frag
  FA : Nat → Addr → Prop
  Φ : Phi
  
  W : WX
def isIx : Ex → Bool
  | .ix _ _ => true
  | _ => false
def pr (e : Ex) : Option (Nat × Bool) := if isPl e then some (root e, isIx e) else none


def zadd (Z H : Hp) (S : List Addr) : Hp := fun a => if a ∈ S then H a else Z a
theorem zadd_le {Z H : Hp} {S : List Addr} (h : ∀ a ∈ S, Z a = none) : Le Z (zadd Z H S) := fun a u e => by
  unfold zadd
  by_cases m : a ∈ S
  · rw [h a m] at e; cases e
  · rw [if_neg m]; exact e
theorem zadd_in {Z H : Hp} {S : List Addr} {a : Addr} (h : a ∈ S) : zadd Z H S a = H a := if_pos h
theorem zadd_out {Z H : Hp} {S : List Addr} {a : Addr} (h : a ∉ S) : zadd Z H S a = Z a := if_neg h
theorem zadd_sub {Z H : Hp} {S : List Addr} (h : Sub Z H) : Sub (zadd Z H S) H := fun a u e => by
  by_cases m : a ∈ S
  · rw [zadd_in m] at e; exact .inl e
  · rw [zadd_out m] at e; exact h a u e
section
variable {K : PySem.W.Frag} {FA : Nat → Addr → Prop} {Z Z' H H' : Hp}

theorem R_down {d : D} {w : Ow} {v : V} {F : List Addr} (h : R K FA Z H w d v F) : ∃ F' S, F = F' ++ S ∧ (∀ a ∈ inn true (some (d, w)) F, a ∈ S) ∧ ∀ Z', Le Z Z' → (∀ a ∈ S, Z' a = H a) → R K FA Z' H (down d w) d v F' := by
  have other : (∀ a ∈ inn true (some (d, w)) F, a ∈ F) → (∀ Z', Le Z Z' → (∀ a ∈ F, Z' a = H a) → R K FA Z' H (down d w) d v []) → ∃ F' S, F = F' ++ S ∧ (∀ a ∈ inn true (some (d, w)) F, a ∈ S) ∧ ∀ Z', Le Z Z' → (∀ a ∈ S, Z' a = H a) → R K FA Z' H (down d w) d v F' :=
    fun h1 h2 => ⟨[], F, rfl, h1, h2⟩
  cases d with
  | non => exact other (fun _ => inn_sub) fun Z' l f => R_share l _ f h
  | bl b => exact other (fun _ => inn_sub) fun Z' l f => R_share l _ f h
  | int b => exact other (fun _ => inn_sub) fun Z' l f => R_share l _ f h
  | str b => exact other (fun _ => inn_sub) fun Z' l f => R_share l _ f h
  | fn b => exact other (fun _ => inn_sub) fun Z' l f => R_share l _ f h
  | scr b => exact other (fun _ => inn_sub) fun Z' l f => R_share l _ f h
  | tup b => exact other (fun _ => inn_sub) fun Z' l f => R_share l _ f h
  | lst ds =>
    cases w with
    | sh => exact other (fun _ => inn_sub) fun Z' l f => R_share l _ f h
    | top =>
      obtain ⟨p, vs, G, e, q, hc, ef⟩ := h
      have eg : G = [] := Rs_sh ds hc
      subst eg
      subst ef
      exact ⟨[p], [], rfl, fun a ha => (by simp [inn, own] at ha), fun Z' l f => ⟨p, vs, [], e, q, Rs_keep l ds (fun _ m => (by cases m)) hc, rfl⟩⟩
    | deep =>
      obtain ⟨p, vs, G, e, q, hc, ef⟩ := h
      subst ef
      exact ⟨[p], G, rfl, fun a ha => (by simpa [inn, own] using ha), fun Z' l f => ⟨p, vs, [], e, q, Rs_share l ds f hc, rfl⟩⟩
  | dic tt kvs =>
    cases w with
    | sh => exact other (fun _ => inn_sub) fun Z' l f => R_share l _ f h
    | top =>
      obtain ⟨p, G, e, q, ef⟩ := h
      have eg : G = [] := by
        rcases q with ⟨_, _, _, _, hc⟩ | ⟨_, _, _, _, hc⟩
        · exact RK_sh kvs hc
        · exact RT_sh kvs hc
      subst eg
      subst ef
      refine ⟨[p], [], rfl, fun a ha => (by simp [inn, own] at ha), fun Z' l f => ⟨p, [], e, ?_, rfl⟩⟩
      rcases q with ⟨et, kv, c, hn, hc⟩ | ⟨et, kv, c, hn, hc⟩
      · exact .inl ⟨et, kv, c, hn, RK_keep l kvs (fun _ m => (by cases m)) hc⟩
      · exact .inr ⟨et, kv, c, hn, RT_keep l kvs (fun _ m => (by cases m)) hc⟩
    | deep =>
      obtain ⟨p, G, e, q, ef⟩ := h
      subst ef
      refine ⟨[p], G, rfl, fun a ha => (by simpa [inn, own] using ha), fun Z' l f => ⟨p, [], e, ?_, rfl⟩⟩
      rcases q with ⟨et, kv, c, hn, hc⟩ | ⟨et, kv, c, hn, hc⟩
      · exact .inl ⟨et, kv, c, hn, RK_share l kvs f hc⟩
      · exact .inr ⟨et, kv, c, hn, RT_share l kvs f hc⟩
theorem nodup_part {Fs : List (List Addr)} {i : Nat} {F' S : List Addr} (n : Fs.flatten.Nodup) (e : Fs.getD i [] = F' ++ S) : (Fs.set i F').flatten.Nodup ∧ (∀ a ∈ S, a ∉ (Fs.set i F').flatten) ∧ ∀ a ∈ (Fs.set i F').flatten, a ∈ Fs.flatten := by
  have sub : ∀ a ∈ (Fs.set i F').flatten, a ∈ Fs.flatten := fun a ha => by
    obtain ⟨j, hj⟩ := of_flat ha
    rcases getD_set hj with ⟨_, z⟩ | ⟨_, z⟩
    · exact mem_flat (i := i) (by rw [e]; exact List.mem_append_left _ z)
    · exact mem_flat z
  have nFS : (F' ++ S).Nodup := by
    rw [← e]
    by_cases hl : i < Fs.length
    · rw [List.getD_eq_getElem?_getD, List.getElem?_eq_getElem hl]
      exact n.sublist (List.sublist_flatten_of_mem (List.getElem_mem hl))
    · rw [List.getD_eq_getElem?_getD, List.getElem?_eq_none (by simpa using hl)]
      exact List.nodup_nil
  refine ⟨?_, fun a ha hb => ?_, sub⟩
  · have := nodup_set (Fs := Fs) (i := i) (F := F') (L := []) n ?_
    · simpa using this
    · refine List.nodup_append.mpr ⟨(List.nodup_append.mp nFS).1, nodup_unset (L := []) (by simpa using n), fun a ha b hb => ?_⟩
      rintro rfl
      obtain ⟨j, hj⟩ := of_flat (by simpa using hb)
      rcases getD_set hj with ⟨_, z⟩ | ⟨ne, z⟩
      · cases z
      · exact ne (flat_inj n (by rw [e]; exact List.mem_append_left _ ha) z)
  · obtain ⟨j, hj⟩ := of_flat hb
    rcases getD_set hj with ⟨_, z⟩ | ⟨ne, z⟩
    · exact absurd rfl ((List.nodup_append.mp nFS).2.2 a z a ha)
    · exact ne (flat_inj n (by rw [e]; exact List.mem_append_right _ ha) z)
theorem getD_eq_of {E : En} {i : Nat} {o : Option Val} (h : E.getD i none = o) (ho : o ≠ none) : E[i]? = some o := by
  rw [List.getD_eq_getElem?_getD] at h
  cases e : E[i]? with
  | none => rw [e] at h; exact absurd h.symm ho
  | some q => rw [e] at h; exact congrArg some h

theorem Stt.give {E : En} {σ : Sl} {Fs : List (List Addr)} {i : Nat} {d : D} {w w' : Ow} {F' S : List Addr} (st : Stt K FA Z H E σ Fs) (e : E[i]? = some (some (d, w))) (ef : Fs.getD i [] = F' ++ S)
    (r : ∀ v, σ[i]? = some (some v) → R K FA Z H w d v (F' ++ S) → ∀ Z', Le Z Z' → (∀ a ∈ S, Z' a = H a) → R K FA Z' H w' d v F') :
    Stt K FA (zadd Z H S) H (E.set i (some (d, w'))) σ (Fs.set i F') ∧ Chg [i] Z H E Fs (zadd Z H S) H (E.set i (some (d, w'))) (Fs.set i F') := by
  have zS : ∀ a ∈ S, Z a = none := fun a ha => st.zf a (mem_flat (i := i) (by rw [ef]; exact List.mem_append_right _ ha))
  have le := zadd_le (H := H) zS
  obtain ⟨nd, out, sub⟩ := nodup_part st.nd ef
  obtain ⟨v, hv, ro⟩ := st.re.get e
  refine ⟨⟨zadd_sub st.sub, ?_, nd, fun a ha => ?_⟩, ⟨le, fun a u h => ?_, fun j a h => ?_, fun a u h _ => h, fun a h => h, fun j hj => ?_⟩⟩
  · have k := RE.keep le (fun _ _ => rfl) st.re
    cases v with
    | none => exact ro.elim
    | some v =>
      have ro : R K FA Z H w d v (Fs.getD i []) := ro
      rw [ef] at ro
      exact k.turn hv (x := some (d, w')) (r v hv ro _ le fun a ha => zadd_in ha)
  · rw [zadd_out fun z => out a z ha]
    exact st.zf a (sub a ha)
  · by_cases m : a ∈ S
    · exact .inr (.inl (mem_flat (i := i) (by rw [ef]; exact List.mem_append_right _ m)))
    · rw [zadd_out m] at h
      exact .inl h
  · rcases getD_set h with ⟨rfl, z⟩ | ⟨_, z⟩
    · exact .inl (by rw [ef]; exact List.mem_append_left _ z)
    · exact .inl z
  · have ne : i ≠ j := fun z => hj (by simp [z])
    rw [List.getElem?_set_ne ne, List.getD_eq_getElem?_getD, List.getElem?_set_ne ne, ← List.getD_eq_getElem?_getD]
    exact ⟨rfl, rfl⟩

theorem Pe.esc {w : List Nat} {e : Ex} {E E1 : En} {Fs Fs1 : List (List Addr)} {σ : Sl} {x : Val} {v : V} {Fd : List Addr} (p : Pe K FA w (pr e) Z H E Fs σ x E1 v Z' H' Fd Fs1) :
    ∃ Z'' Fd'' Fs'', Pe K FA ((if isPl e then [root e] else []) ++ w) none Z H E Fs σ (BS.esc e x E1).1 (BS.esc e x E1).2 v Z'' H' Fd'' Fs'' := by
  have sub : ∀ i ∈ w, i ∈ (if isPl e then [root e] else []) ++ w := fun i h => List.mem_append_right _ h
  cases hp : isPl e with
  | false =>
    have ep : pr e = none := by simp [pr, hp]
    rw [ep] at p
    refine ⟨Z', Fd, Fs1, ?_⟩
    simp only [BS.esc, hp, Bool.false_and]
    exact p
  | true =>
    cases hx : BS.plain x.1 with
    | true =>
      obtain ⟨e0, hr⟩ := R_plain _ hx p.val
      refine ⟨Z', [], Fs1, ?_⟩
      simp only [BS.esc, hp, hx, Bool.not_true, Bool.and_false]
      have q := (p.plain (d := x.1) (u := v) fun w => hr w _).mono fun i h => (List.mem_append_right [root e] h)
      exact ⟨q.st, q.ch, hr _ _, q.ex, fun _ _ z => (by cases z)⟩
    | false =>
      have ee : BS.esc e x E1 = ((x.1, .sh), shRoot e E1) := by simp [BS.esc, hp, hx]
      rw [ee]
      -- the root's entry stands
      have fd0 : ∀ b, (∀ i b', pr e = some (i, b') → i = root e ∧ b' = b) → Fd ≠ [] → ∃ d w0, E1[root e]? = some (some (d, w0)) := fun b hb hF => by
        cases Fd with
        | nil => exact absurd rfl hF
        | cons a r =>
          have := (p.pl (root e) (isIx e) (by simp [pr, hp])).1 a List.mem_cons_self
          have hm := inn_sub this
          cases q : E1[root e]? with
          | none =>
            have l := p.st.re.length
            rw [List.getD_eq_getElem?_getD, List.getElem?_eq_none (by have := List.getElem?_eq_none_iff.mp q; omega)] at hm
            cases hm
          | some o =>
            cases o with
            | none =>
              obtain ⟨v', _, ro⟩ := p.st.re.get q
              rw [show Fs1.getD (root e) [] = [] from ro] at hm
              cases hm
            | some dw => exact ⟨dw.1, dw.2, rfl⟩
      -- nothing of our own within
      have none_own : Fd = [] → ∀ E2 Fs2 Z2, Stt K FA Z2 H' E2 σ Fs2 → Chg [root e] Z' H' E1 Fs1 Z2 H' E2 Fs2 → Pe K FA ([root e] ++ w) none Z H E Fs σ (x.1, .sh) E2 v Z2 H' [] Fs2 := fun hF E2 Fs2 Z2 s2 c2 => by
        subst hF
        have c := p.ch.trans c2
        refine ⟨s2, c.mono fun i h => ?_, R_share c2.le _ (fun _ m => (by cases m)) p.val, fun _ => ⟨by simpa using s2.nd, fun _ h => (by cases h), fun _ h => (by cases h)⟩, fun _ _ z => (by cases z)⟩
        rcases List.mem_append.mp h with z | z
        · exact List.mem_append_right _ z
        · exact List.mem_append_left _ z
      -- sharing the root
      have go : ∀ d w0 w' F' S, E1[root e]? = some (some (d, w0)) → Fs1.getD (root e) [] = F' ++ S → (∀ a ∈ Fd, a ∈ S) → (∀ v, σ[root e]? = some (some v) → R K FA Z' H' w0 d v (F' ++ S) → ∀ Z2, Le Z' Z2 → (∀ a ∈ S, Z2 a = H' a) → R K FA Z2 H' w' d v F') →
          ∃ Z'' Fd'' Fs'', Pe K FA ([root e] ++ w) none Z H E Fs σ (x.1, .sh) (E1.set (root e) (some (d, w'))) v Z'' H' Fd'' Fs'' := fun d w0 w' F' S q ef hS hr => by
        obtain ⟨s2, c2⟩ := p.st.give q ef hr
        refine ⟨_, [], _, ⟨s2, (p.ch.trans c2).mono fun i h => ?_, R_share c2.le _ (fun a ha => zadd_in (hS a ha)) p.val, fun _ => ⟨by simpa using s2.nd, fun _ h => (by cases h), fun _ h => (by cases h)⟩, fun _ _ z => (by cases z)⟩⟩
        rcases List.mem_append.mp h with z | z
        · exact List.mem_append_right _ z
        · exact List.mem_append_left _ z
      simp only [if_true]
      cases q : E1[root e]? with
      | none =>
        have hF : Fd = [] := Classical.byContradiction fun h => by
          obtain ⟨d, w0, z⟩ := fd0 (isIx e) (fun i b' h => by simp [pr, hp] at h; exact ⟨h.1.symm, h.2.symm⟩) h
          rw [q] at z; cases z
        have es : shRoot e E1 = E1 := by
          cases e with
          | var i => simp only [root] at q; simp [shRoot, q]
          | ix a k => simp only [root] at q; simp [shRoot, q]
          | _ => rfl
        rw [es]
        exact ⟨_, _, _, none_own hF E1 Fs1 Z' p.st (Chg.refl _ _ _ _ _)⟩
      | some o =>
        cases o with
        | none =>
          have hF : Fd = [] := Classical.byContradiction fun h => by
            obtain ⟨d, w0, z⟩ := fd0 (isIx e) (fun i b' h => by simp [pr, hp] at h; exact ⟨h.1.symm, h.2.symm⟩) h
            rw [q] at z; cases z
          have es : shRoot e E1 = E1 := by
            cases e with
            | var i => simp only [root] at q; simp [shRoot, q]
            | ix a k => simp only [root] at q; simp [shRoot, q]
            | _ => rfl
          rw [es]
          exact ⟨_, _, _, none_own hF E1 Fs1 Z' p.st (Chg.refl _ _ _ _ _)⟩
        | some dw =>
          obtain ⟨d, w0⟩ := dw
          obtain ⟨v0, hv0, ro⟩ := p.st.re.get q
          cases v0 with
          | none => exact ro.elim
          | some v0 =>
            have ro : R K FA Z' H' w0 d v0 (Fs1.getD (root e) []) := ro
            have pl := (p.pl (root e) (isIx e) (by simp [pr, hp])).1
            cases e with
            | var i =>
              have es : shRoot (.var i) E1 = E1.set i (some (d, .sh)) := by simp only [root] at q; simp [shRoot, q]
              rw [es]
              exact go d w0 .sh [] _ q rfl (fun a ha => inn_sub (pl a ha)) fun v _ r Z2 l f => R_share l _ f r
            | ix a k =>
              have es : shRoot (.ix a k) E1 = E1.set (root a) (some (d, down d w0)) := by simp only [root] at q; simp [shRoot, q]
              rw [es]
              obtain ⟨F', S, ef, hi, hr⟩ := R_down ro
              refine go d w0 (down d w0) F' S q ef (fun a' ha => hi a' ?_) fun v ev r Z2 l f => ?_
              · have := pl a' ha
                rw [List.getD_eq_getElem?_getD, q] at this
                exact this
              · rw [hv0] at ev
                cases ev
                exact hr Z2 l f
            | _ => simp at hp
end
end BS

set_option Elab.async false
set_option linter.all false
set_option maxRecDepth 100000
set_option maxHeartbeats 1000000
namespace BS
open PySem PySem.Spec PyProof.Rows L2

theorem _root_.L2.PE.imp {X : Cx} {e : Expr} {t t' : TE} (h : PE X e t) (k : ∀ σ H Q, t' σ H Q → t σ H Q) : PE X e t' := ⟨fun pins s σ H Q I w => h.run pins s σ H Q I (k σ H Q w)⟩
theorem _root_.L2.PE.or {X : Cx} {e : Expr} {t t' : TE} (h : PE X e t) (h' : PE X e t') : PE X e (fun σ H Q => t σ H Q ∨ t' σ H Q) :=
  ⟨fun pins s σ H Q I w => w.elim (h.run pins s σ H Q I) (h'.run pins s σ H Q I)⟩
theorem _root_.L2.PT.imp {X : Cx} {e : Expr} {t t' : TT} (h : PT X e t) (k : ∀ σ H Q, t' σ H Q → t σ H Q) : PT X e t' := ⟨fun pins s σ H Q I w => h.run pins s σ H Q I (k σ H Q w)⟩
theorem _root_.L2.PW.imp {X : Cx} {e : Expr} {t t' : TT} (h : PW X e t) (k : ∀ σ H Q, t' σ H Q → t σ H Q) : PW X e t' := ⟨fun wh pins s σ H Q I w => h.run wh pins s σ H Q I (k σ H Q w)⟩
theorem _root_.L2.PA.imp {X : Cx} {e : List Expr} {t t' : TA} (h : PA X e t) (k : ∀ σ H Q, t' σ H Q → t σ H Q) : PA X e t' := ⟨fun pos pins s σ H Q I w => h.run pos pins s σ H Q I (k σ H Q w)⟩
theorem _root_.L2.PS.imp {X : Cx} {e : Stmt} {t t' : TS} (h : PS X e t) (k : ∀ D σ H, t' D σ H → t D σ H) : PS X e t' := ⟨fun pins s σ H D I w => h.run pins s σ H D I (k D σ H w)⟩
theorem _root_.L2.PSs.imp {X : Cx} {e : List Stmt} {t t' : TS} (h : PSs X e t) (k : ∀ D σ H, t' D σ H → t D σ H) : PSs X e t' := ⟨fun pins s σ H D I w => h.run pins s σ H D I (k D σ H w)⟩


def SE (B : Bk) (e : Ex) : TE := fun σ H Q => ∃ Z E Fs x E', Stt B.K B.FA Z H E σ Fs ∧ ev B.Φ e E = some (x, E') ∧
  ∀ v H' Z' Fd Fs', Pe B.K B.FA (wr e) (pr e) Z H E Fs σ x E' v Z' H' Fd Fs' → Q v H'
def SX (B : Bk) (e : Ex) : TE := fun σ H Q => ∃ Z E Fs x E', Stt B.K B.FA Z H E σ Fs ∧ ev B.Φ e E = some (x, E') ∧
  ∀ v H' Z' Fd Fs', Pe B.K B.FA (wrx e) none Z H E Fs σ (esc e x E').1 (esc e x E').2 v Z' H' Fd Fs' → Q v H'
def ST (B : Bk) (e : Ex) : TT := fun σ H Q => ∃ Z E Fs k w E', Stt B.K B.FA Z H E σ Fs ∧ ev B.Φ e E = some ((.bl k, w), E') ∧
  ∀ H' Z' Fs', Stt B.K B.FA Z' H' E' σ Fs' → Chg (wr e) Z H E Fs Z' H' E' Fs' → Q k H'
theorem se_x {B : Bk} {e : Ex} {σ H Q} (h : SX B e σ H Q) : SE B e σ H Q := by
  obtain ⟨Z, E, Fs, x, E', st, he, k⟩ := h
  refine ⟨Z, E, Fs, x, E', st, he, fun v H' Z' Fd Fs' p => ?_⟩
  obtain ⟨Z2, Fd2, Fs2, q⟩ := p.esc
  exact k v H' Z2 Fd2 Fs2 q

section
variable {X : Cx} {B : Bk} {pos : Pos}

theorem se_leaf {e : Ex} {v : V} {d : D} {σ H Q} (hp : isPl e = false) (hev : ∀ E x E', ev B.Φ e E = some (x, E') → x = (d, .deep) ∧ E' = E) (hr : ∀ Z H, R B.K B.FA Z H .deep d v []) (h : SE B e σ H Q) : Q v H := by
  obtain ⟨Z, E, Fs, x, E', st, he, k⟩ := h
  obtain ⟨rfl, rfl⟩ := hev E x E' he
  exact k v H Z [] Fs ⟨st, Chg.refl _ _ _ _ _, hr _ _, fun _ => ⟨by simpa using st.nd, fun _ h => (by cases h), fun _ h => (by cases h)⟩, fun _ _ z => by simp [pr, hp] at z⟩
theorem sx_int {i j} : PE X (.Constant (.int i) j pos) (SE B (.int i)) :=
  pe_int.imp fun σ H Q h => se_leaf (d := .int i) rfl (fun E x E' e => by simp [ev] at e; exact ⟨e.1.symm, e.2.symm⟩) (fun _ _ => ⟨rfl, rfl⟩) h
theorem sx_bl {b j} : PE X (.Constant (.bool b) j pos) (SE B (.bl b)) :=
  pe_bl.imp fun σ H Q h => se_leaf (d := .bl b) rfl (fun E x E' e => by simp [ev] at e; exact ⟨e.1.symm, e.2.symm⟩) (fun _ _ => ⟨rfl, rfl⟩) h
theorem sx_non {j} : PE X (.Constant .none j pos) (SE B .non) :=
  pe_non.imp fun σ H Q h => se_leaf (d := .non) rfl (fun E x E' e => by simp [ev] at e; exact ⟨e.1.symm, e.2.symm⟩) (fun _ _ => ⟨rfl, rfl⟩) h
theorem sx_str {x : Str} {j} (hl : x.length ≤ line) (hk : PyData.strOk x = true) : PE X (.Constant (.str x) j pos) (SE B (.str x)) :=
  pe_str.imp fun σ H Q h => se_leaf (d := .str x) rfl (fun E x E' e => by simp [ev] at e; exact ⟨e.1.symm, e.2.symm⟩) (fun _ _ => ⟨⟨rfl, hl, hk⟩, rfl⟩) h

theorem sx_var {i : Nat} {x : Str} (hN : X.N[i]? = some x) (hv : Vis X.env.scope x) (hd : (x == ("__debug__" : Str)) = false := by decide) (hcd : (x == ("__classdict__" : Str)) = false := by decide) : PE X (.Name x pos) (SE B (.var i)) := by
  refine (pe_var hN hv hd hcd).imp fun σ H Q h => ?_
  obtain ⟨Z, E, Fs, x, E', st, he, k⟩ := h
  unfold ev at he
  cases e : E[i]? with
  | none => rw [e] at he; cases he
  | some o =>
    rw [e] at he
    cases o with
    | none => cases he
    | some y =>
      simp only [Option.some.injEq, Prod.mk.injEq] at he
      obtain ⟨rfl, rfl⟩ := he
      obtain ⟨v, hv, ro⟩ := st.re.get e
      cases v with
      | none => exact ro.elim
      | some v =>
        exact ⟨v, hv, k v H Z _ Fs ⟨st, Chg.refl _ _ _ _ _, ro, fun z => (by simp [pr] at z), fun j b z => by
          simp [pr, isIx] at z
          obtain ⟨rfl, rfl⟩ := z
          exact ⟨fun a ha => ha, fun _ => ⟨by rw [List.getD_eq_getElem?_getD, e]; rfl, rfl⟩⟩⟩⟩


def Ok1 (B : Bk) (f : D → Option D) (r : V → Hp → VK → Prop) : Prop := ∀ d d' v w F Z H Q, Sub Z H → R B.K B.FA Z H w d v F → f d = some d' → (∀ u, (∀ w, R B.K B.FA Z H w d' u []) → Q u H) → r v H Q
def Ok2 (B : Bk) (f : D → D → Option D) (r : R2) : Prop := ∀ a b d' v u w w' F F' Z H Q, Sub Z H → R B.K B.FA Z H w a v F → R B.K B.FA Z H w' b u F' → f a b = some d' → (∀ u, (∀ w, R B.K B.FA Z H w d' u []) → Q u H) → r v u H Q
theorem se1 {o : Op1} {a : Ex} {r : V → Hp → VK → Prop} (hr : Ok1 B (app1 o) r) {σ H Q} (h : SE B (.op1 o a) σ H Q) : SE B a σ H fun v H1 => r v H1 Q := by
  obtain ⟨Z, E, Fs, x, E', st, he, k⟩ := h
  simp only [ev, Option.bind_eq_bind, Option.bind_eq_some_iff, Prod.exists] at he
  obtain ⟨y, w, E1, h1, d, h2, e⟩ := he
  simp only [Option.some.injEq, Prod.mk.injEq] at e
  obtain ⟨rfl, rfl⟩ := e
  refine ⟨Z, E, Fs, (y, w), E1, st, h1, fun v H1 Z1 Fd Fs1 p => ?_⟩
  refine hr _ _ v _ _ _ H1 Q p.st.sub p.val h2 fun u hu => ?_
  exact k u H1 Z1 [] Fs1 (p.plain hu)
theorem st1 {o : Op1} {a : Ex} {r : V → Hp → VK → Prop} (hr : Ok1 B (app1 o) r) {σ H Q} (h : ST B (.op1 o a) σ H Q) : SE B a σ H fun v H1 => r v H1 fun x H' => ∃ k, x = .bl k ∧ Q k H' := by
  obtain ⟨Z, E, Fs, c, w, E', st, he, k⟩ := h
  refine se1 hr ⟨Z, E, Fs, _, E', st, he, fun v H' Z' Fd Fs' p => ⟨c, p.val.1, k H' Z' Fs' p.st p.ch⟩⟩
theorem brw_ok {a : Ex} {w : List Nat} {x : Val} (h : brw a w x = true) : ∀ i b, pr a = some (i, b) → plain x.1 = true ∨ i ∉ w := by
  intro i b e
  unfold pr at e
  cases hp : isPl a with
  | false => rw [hp] at e; cases e
  | true =>
    rw [hp] at e
    simp only [if_true, Option.some.injEq, Prod.mk.injEq] at e
    obtain ⟨rfl, rfl⟩ := e
    unfold brw at h
    simp only [hp, Bool.not_true, Bool.false_or, Bool.or_eq_true, Bool.not_eq_true', List.contains_eq_mem, decide_eq_false_iff_not] at h
    exact h
theorem se2 {o : Op2} {a b : Ex} {r : R2} (hr : Ok2 B (app2 o) r) {σ H Q} (h : SE B (.op2 o a b) σ H Q) : tOp r (SE B a) (SE B b) σ H Q := by
  obtain ⟨Z, E, Fs, x, E', st, he, k⟩ := h
  simp only [ev, Option.bind_eq_bind, Option.bind_eq_some_iff, Prod.exists] at he
  obtain ⟨y, w, E1, h1, he⟩ := he
  by_cases hb : brw a (wr b) (y, w) = true
  · rw [if_pos hb] at he
    simp only [Option.bind_eq_some_iff, Prod.exists] at he
    obtain ⟨z, w', E2, h2, d, h3, e⟩ := he
    simp only [Option.some.injEq, Prod.mk.injEq] at e
    obtain ⟨rfl, rfl⟩ := e
    refine ⟨Z, E, Fs, (y, w), E1, st, h1, fun v H1 Z1 F1 Fs1 p => ?_⟩
    refine ⟨Z1, E1, Fs1, (z, w'), E2, p.st, h2, fun u H2 Z2 F2 Fs2 q => ?_⟩
    obtain ⟨_, kr⟩ := p.keep q.ch (brw_ok hb)
    refine hr _ _ _ v u _ _ _ _ _ H2 Q q.st.sub kr q.val h3 fun t ht => ?_
    exact k t H2 Z2 [] Fs2 ((p.trans q).plain ht)
  · rw [if_neg hb] at he
    cases he
theorem st2 {o : Op2} {a b : Ex} {r : R2} (hr : Ok2 B (app2 o) r) {σ H Q} (h : ST B (.op2 o a b) σ H Q) : tTest (tOp r (SE B a) (SE B b)) σ H Q := by
  obtain ⟨Z, E, Fs, c, w, E', st, he, k⟩ := h
  refine se2 hr (Q := fun x H' => ∃ k, x = .bl k ∧ Q k H') ⟨Z, E, Fs, _, E', st, he, fun v H' Z' Fd Fs' p => ⟨c, p.val.1, k H' Z' Fs' p.st p.ch⟩⟩
variable {ea eb ec : Expr} {a b c : Ex}
theorem sx_bin {o : Op2} {op : Operator} {r : R2} (ho : OpR X (binaryOp op) r) (hr : Ok2 B (app2 o) r) (ha : PE X ea (SE B a)) (hb : PE X eb (SE B b)) : PE X (.BinOp ea op eb pos) (SE B (.op2 o a b)) :=
  (pe_op ho ha hb).imp fun _ _ _ h => se2 hr h
theorem sx_un {o : Op1} {op : UnaryOp} {r : V → Hp → VK → Prop} (ho : UnR X (unaryOp op) r) (hr : Ok1 B (app1 o) r) (ha : PE X ea (SE B a)) : PE X (.UnaryOp op ea pos) (SE B (.op1 o a)) :=
  (pe_un ho ha).imp fun _ _ _ h => se1 hr h
theorem sx_cmp {o : Op2} {op : CmpOp} {r : R2} (ho : OpR X (compareOp op) r) (hr : Ok2 B (app2 o) r) (ha : PE X ea (SE B a)) (hb : PE X eb (SE B b)) (hm : behindInMarks op eb = false) : PE X (.Compare ea [op] [eb] pos) (SE B (.op2 o a b)) :=
  (pe_cmpR ho ha hb hm).imp fun _ _ _ h => se2 hr h
theorem sp_cmp {o : Op2} {op : CmpOp} {r : R2} (ho : OpR X (compareOp op) r) (hr : Ok2 B (app2 o) r) (ha : PE X ea (SE B a)) (hb : PE X eb (SE B b)) (hm : behindInMarks op eb = false) : PT X (.Compare ea [op] [eb] pos) (ST B (.op2 o a b)) :=
  (pt_cmpR ho ha hb hm).imp fun _ _ _ h => st2 hr h

theorem sp_val {e : Expr} (h : PE X e (SE B a)) (he : ∀ whole, isTrue e X.env whole = (do let v ← whole; standAt e.pos; holding [v] (truthy v)) := by intro _; rfl) : PT X e (ST B a) := by
  refine (pt_val h he).imp fun σ H Q h => ?_
  obtain ⟨Z, E, Fs, c, w, E', st, he, k⟩ := h
  exact ⟨Z, E, Fs, _, E', st, he, fun v H' Z' Fd Fs' p => ⟨c, p.val.1, k H' Z' Fs' p.st p.ch⟩⟩


theorem ev_and {Φ : Phi} {E E' : En} {x : Val} (h : ev Φ (.and a b) E = some (x, E')) : ∃ k w E1, ev Φ a E = some ((.bl k, w), E1) ∧ if k = true then ∃ c w, ev Φ b E1 = some ((.bl c, w), E') ∧ x = (.bl c, .deep) else E' = E1 ∧ x = (.bl false, .deep) := by
  simp only [ev, Option.bind_eq_bind, Option.bind_eq_some_iff, Prod.exists] at h
  obtain ⟨y, w, E1, h1, h⟩ := h
  cases y with
  | bl k =>
    cases k with
    | true =>
      simp only [Option.bind_eq_some_iff, Prod.exists] at h
      obtain ⟨z, w2, E2, h2, h⟩ := h
      cases z with
      | bl c =>
        simp only [Option.some.injEq, Prod.mk.injEq] at h
        exact ⟨true, w, E1, h1, by simp only [if_true]; exact ⟨c, w2, by rw [h2, h.2], h.1.symm⟩⟩
      | _ => cases h
    | false =>
      simp only [Option.some.injEq, Prod.mk.injEq] at h
      exact ⟨false, w, E1, h1, by simp only [Bool.false_eq_true, if_false]; exact ⟨h.2.symm, h.1.symm⟩⟩
  | _ => cases h
theorem ev_or {Φ : Phi} {E E' : En} {x : Val} (h : ev Φ (.or a b) E = some (x, E')) : ∃ k w E1, ev Φ a E = some ((.bl k, w), E1) ∧ if k = true then E' = E1 ∧ x = (.bl true, .deep) else ∃ c w, ev Φ b E1 = some ((.bl c, w), E') ∧ x = (.bl c, .deep) := by
  simp only [ev, Option.bind_eq_bind, Option.bind_eq_some_iff, Prod.exists] at h
  obtain ⟨y, w, E1, h1, h⟩ := h
  cases y with
  | bl k =>
    cases k with
    | false =>
      simp only [Option.bind_eq_some_iff, Prod.exists] at h
      obtain ⟨z, w2, E2, h2, h⟩ := h
      cases z with
      | bl c =>
        simp only [Option.some.injEq, Prod.mk.injEq] at h
        exact ⟨false, w, E1, h1, by simp only [Bool.false_eq_true, if_false]; exact ⟨c, w2, by rw [h2, h.2], h.1.symm⟩⟩
      | _ => cases h
    | true =>
      simp only [Option.some.injEq, Prod.mk.injEq] at h
      exact ⟨true, w, E1, h1, by simp only [if_true]; exact ⟨h.2.symm, h.1.symm⟩⟩
  | _ => cases h
theorem tA {σ H Q} (h : ST B (.and a b) σ H Q) : tAnd (ST B a) (ST B b) σ H Q := by
  obtain ⟨Z, E, Fs, c, w, E', st, he, k⟩ := h
  obtain ⟨ka, wa, E1, h1, h2⟩ := ev_and he
  refine ⟨Z, E, Fs, ka, wa, E1, st, h1, fun H1 Z1 Fs1 s1 c1 => ?_⟩
  cases ka with
  | true =>
    simp only [if_true] at h2 ⊢
    obtain ⟨c', w', h2, e⟩ := h2
    simp only [Prod.mk.injEq, D.bl.injEq] at e
    obtain ⟨rfl, rfl⟩ := e
    exact ⟨Z1, E1, Fs1, _, _, E', s1, h2, fun H2 Z2 Fs2 s2 c2 => k H2 Z2 Fs2 s2 (c1.trans c2)⟩
  | false =>
    simp only [Bool.false_eq_true, if_false] at h2 ⊢
    obtain ⟨rfl, e⟩ := h2
    simp only [Prod.mk.injEq, D.bl.injEq] at e
    obtain ⟨rfl, rfl⟩ := e
    exact k H1 Z1 Fs1 s1 (c1.mono fun i h => List.mem_append_left _ h)
theorem tO {σ H Q} (h : ST B (.or a b) σ H Q) : tOr (ST B a) (ST B b) σ H Q := by
  obtain ⟨Z, E, Fs, c, w, E', st, he, k⟩ := h
  obtain ⟨ka, wa, E1, h1, h2⟩ := ev_or he
  refine ⟨Z, E, Fs, ka, wa, E1, st, h1, fun H1 Z1 Fs1 s1 c1 => ?_⟩
  cases ka with
  | false =>
    simp only [Bool.false_eq_true, if_false] at h2 ⊢
    obtain ⟨c', w', h2, e⟩ := h2
    simp only [Prod.mk.injEq, D.bl.injEq] at e
    obtain ⟨rfl, rfl⟩ := e
    exact ⟨Z1, E1, Fs1, _, _, E', s1, h2, fun H2 Z2 Fs2 s2 c2 => k H2 Z2 Fs2 s2 (c1.trans c2)⟩
  | true =>
    simp only [if_true] at h2 ⊢
    obtain ⟨rfl, e⟩ := h2
    simp only [Prod.mk.injEq, D.bl.injEq] at e
    obtain ⟨rfl, rfl⟩ := e
    exact k H1 Z1 Fs1 s1 (c1.mono fun i h => List.mem_append_left _ h)
variable {rest : List Expr}
theorem sw_one {op : BoolOp} (ha : PT X ea (ST B a)) : PW X (.BoolOp op [ea] pos) (ST B a) := by
  cases op
  · exact pw_and1 ha
  · exact pw_or1 ha
theorem sw_and (ha : PT X ea (ST B a)) (hb : PW X (.BoolOp .And (eb :: rest) pos) (ST B b)) : PW X (.BoolOp .And (ea :: eb :: rest) pos) (ST B (.and a b)) := (pw_and ha hb).imp fun _ _ _ => tA
theorem sw_or (ha : PT X ea (ST B a)) (hb : PW X (.BoolOp .Or (eb :: rest) pos) (ST B b)) : PW X (.BoolOp .Or (ea :: eb :: rest) pos) (ST B (.or a b)) := (pw_or ha hb).imp fun _ _ _ => tO
theorem sp_not (ha : PT X ea (ST B a)) : PT X (.UnaryOp .Not ea pos) (ST B (.op1 .not a)) := by
  refine (pt_not ha).imp fun σ H Q h => ?_
  obtain ⟨Z, E, Fs, c, w, E', st, he, k⟩ := h
  simp only [ev, Option.bind_eq_bind, Option.bind_eq_some_iff, Prod.exists] at he
  obtain ⟨y, w', E1, h1, d, h2, e⟩ := he
  simp only [Option.some.injEq, Prod.mk.injEq] at e
  obtain ⟨⟨rfl, rfl⟩, rfl⟩ := e
  cases y with
  | bl k' =>
    simp only [app1, Option.some.injEq, D.bl.injEq] at h2
    subst h2
    exact ⟨Z, E, Fs, k', w', E1, st, h1, fun H1 Z1 Fs1 s1 c1 => k H1 Z1 Fs1 s1 c1⟩
  | _ => simp [app1] at h2

end
end BS

set_option Elab.async false
set_option linter.all false
set_option maxRecDepth 100000
set_option maxHeartbeats 1000000
namespace BS
open PySem PySem.Spec PyProof.Rows L2
section
variable {K : PySem.W.Frag} {FA : Nat → Addr → Prop} {Z Z' H H' : Hp} {E E' : En} {Fs Fs' : List (List Addr)} {σ : Sl} {w : List Nat} {p : Addr}
theorem upd_keep {o : HO} (hp : H p = none) : ∀ a u, H a = some u → upd H p o a = some u := fun a u h => by rw [upd_ne (ne_of_none h hp)]; exact h
theorem Sub.none (s : Sub Z H) (hp : H p = none) : Z p = none := by
  cases e : Z p with
  | none => rfl
  | some u => rcases s p u e with z | ⟨_, o, z⟩ <;> · rw [hp] at z; cases z

theorem Stt.laid {o : HO} (st : Stt K FA Z H E σ Fs) (hp : H p = none) : Stt K FA Z (upd H p o) E σ Fs :=
  ⟨fun a u e => by
      rcases st.sub a u e with z | ⟨z, q, y⟩
      · exact .inl (upd_keep hp a u z)
      · exact .inr ⟨z, q, upd_keep hp a _ y⟩,
    RE.keep (Le.refl Z) (fun a ha => upd_ne fun z => st.re.there ha (z ▸ hp)) st.re, st.nd, st.zf⟩
theorem Chg.laid {o : HO} (c : Chg w Z H E Fs Z' H' E' Fs') (hp : H' p = none) : Chg w Z H E Fs Z' (upd H' p o) E' Fs' :=
  ⟨c.le, c.zn, c.fr, fun a u h n => upd_keep hp a u (c.frame a u h n), fun a h => by
    by_cases e : a = p
    · subst e; rw [upd_same]; exact fun z => by cases z
    · rw [upd_ne e]; exact c.there a h, c.same⟩

theorem Stt.laidZ {o : HO} (st : Stt K FA Z H E σ Fs) (hp : H p = none) : Stt K FA (upd Z p o) (upd H p o) E σ Fs := by
  have zp := st.sub.none hp
  have s := st.laid (o := o) hp
  refine ⟨fun a u e => ?_, RE.keep (upd_keep zp) (fun _ _ => rfl) s.re, s.nd, fun a ha => ?_⟩
  · by_cases q : a = p
    · subst q; rw [upd_same] at e ⊢; exact .inl e
    · rw [upd_ne q] at e; exact s.sub a u e
  · rw [upd_ne (show a ≠ p from fun z => st.re.there ha (z ▸ hp))]; exact s.zf a ha
theorem Chg.laidZ {o : HO} (c : Chg w Z H E Fs Z' H' E' Fs') (s : Sub Z' H') (hp : H' p = none) : Chg w Z H E Fs (upd Z' p o) (upd H' p o) E' Fs' := by
  have zp := s.none hp
  have q := c.laid (o := o) hp
  refine ⟨c.le.trans (upd_keep zp), fun a u e => ?_, q.fr, q.frame, q.there, q.same⟩
  by_cases y : a = p
  · subst y; exact .inr (.inr (c.free hp))
  · rw [upd_ne y] at e; exact c.zn a u e

theorem Stt.zadd {S : List Addr} (st : Stt K FA Z H E σ Fs) (z : ∀ a ∈ S, Z a = none) (d : ∀ a ∈ S, a ∉ Fs.flatten) : Stt K FA (zadd Z H S) H E σ Fs :=
  ⟨zadd_sub st.sub, RE.keep (zadd_le z) (fun _ _ => rfl) st.re, st.nd, fun a ha => by rw [zadd_out fun q => d a q ha]; exact st.zf a ha⟩
theorem Chg.zadd {S : List Addr} (c : Chg w Z H E Fs Z' H' E' Fs') (z : ∀ a ∈ S, Z' a = none) (f : ∀ a ∈ S, H a = none ∨ WC Fs w a) : Chg w Z H E Fs (zadd Z' H' S) H' E' Fs' := by
  refine ⟨c.le.trans (zadd_le z), fun a u e => ?_, c.fr, c.frame, c.there, c.same⟩
  by_cases m : a ∈ S
  · rcases f a m with y | y
    · exact .inr (.inr y)
    · exact .inr (.inl y.flat)
  · rw [zadd_out m] at e; exact c.zn a u e


abbrev RL (K : PySem.W.Frag) (FA : Nat → Addr → Prop) (Z H : Hp) (xs : List Val) (vs : List V) (Fds : List (List Addr)) : Prop := RE K FA Z H (xs.map some) (vs.map some) Fds
structure Pes (K : PySem.W.Frag) (FA : Nat → Addr → Prop) (w : List Nat) (Z H : Hp) (E : En) (Fs : List (List Addr)) (σ : Sl) (xs : List Val) (E' : En) (vs : List V) (Z' H' : Hp) (Fds Fs' : List (List Addr)) : Prop where
  st : Stt K FA Z' H' E' σ Fs'
  ch : Chg w Z H E Fs Z' H' E' Fs'
  val : RL K FA Z' H' xs vs Fds
  nd : (Fds.flatten ++ Fs'.flatten).Nodup
  zf : ∀ a ∈ Fds.flatten, Z' a = none
  fd : ∀ a ∈ Fds.flatten, H a = none ∨ WC Fs w a
theorem RL.length {xs : List Val} {vs : List V} {Fds : List (List Addr)} (h : RL K FA Z H xs vs Fds) : vs.length = xs.length := by
  have := (RE.length h).1
  simp at this
  exact this.symm
theorem RL_deep : ∀ {xs : List Val} {vs : List V} {Fds : List (List Addr)}, RL K FA Z H xs vs Fds → allDeep xs = true → Rs K FA Z H .deep (ds xs) vs Fds.flatten
  | [], [], [], _, _ => ⟨rfl, rfl⟩
  | x :: xs, v :: vs, F :: Fds, h, a => by
    simp only [allDeep, Bool.and_eq_true, Bool.or_eq_true, decide_eq_true_eq] at a
    refine ⟨v, vs, F, Fds.flatten, rfl, ?_, RL_deep h.2 a.2, by rw [List.flatten_cons]⟩
    have h1 : R K FA Z H x.2 x.1 v F := h.1
    rcases a.1 with q | q
    · obtain ⟨e, k⟩ := R_plain _ q h1
      rw [e]
      exact k _ _
    · rw [q] at h1
      exact h1
  | [], [], _ :: _, h, _ => h.elim
  | [], _ :: _, _, h, _ => h.elim
  | _ :: _, [], _, h, _ => h.elim
  | _ :: _, _ :: _, [], h, _ => h.elim
theorem RL_share (hz : Le Z Z') : ∀ {xs : List Val} {vs : List V} {Fds : List (List Addr)}, RL K FA Z H xs vs Fds → (∀ a ∈ Fds.flatten, Z' a = H a) → Rs K FA Z' H' .sh (ds xs) vs []
  | [], [], [], _, _ => ⟨rfl, rfl⟩
  | x :: xs, v :: vs, F :: Fds, h, a => by
    rw [List.flatten_cons] at a
    exact ⟨v, vs, [], [], rfl, R_share hz _ (fun b hb => a b (List.mem_append_left _ hb)) (show R K FA Z H x.2 x.1 v F from h.1), RL_share hz h.2 fun b hb => a b (List.mem_append_right _ hb), rfl⟩
  | [], [], _ :: _, h, _ => h.elim
  | [], _ :: _, _, h, _ => h.elim
  | _ :: _, [], _, h, _ => h.elim
  | _ :: _, _ :: _, [], h, _ => h.elim
section
variable {xs : List Val} {vs : List V} {Fds : List (List Addr)}
theorem Pes.shared (q : Pes K FA w Z H E Fs σ xs E' vs Z' H' Fds Fs') :
    Stt K FA (BS.zadd Z' H' Fds.flatten) H' E' σ Fs' ∧ Chg w Z H E Fs (BS.zadd Z' H' Fds.flatten) H' E' Fs' ∧ Rs K FA (BS.zadd Z' H' Fds.flatten) H' .sh (ds xs) vs [] :=
  ⟨q.st.zadd q.zf fun a ha hb => (List.nodup_append.mp q.nd).2.2 a ha a hb rfl, q.ch.zadd q.zf q.fd, RL_share (zadd_le q.zf) q.val fun a ha => zadd_in ha⟩
theorem Pes.none_new (q : Pes K FA w Z H E Fs σ xs E' vs Z' H' Fds Fs') (hp : H' p = none) : ∀ a ∈ Fds.flatten, a ≠ p := fun a ha z => RE.there q.val ha (z ▸ hp)

theorem Pes.tup (q : Pes K FA w Z H E Fs σ xs E' vs Z' H' Fds Fs') (hp : H' p = none) :
    ∃ Z'' Fd'', Pe K FA w none Z H E Fs σ (mkTup xs) E' (.ref p) Z'' (upd H' p (.tup vs)) Fd'' Fs' := by
  unfold mkTup
  cases ad : allDeep xs with
  | true =>
    have zp := q.st.sub.none hp
    have le : Le Z' (upd Z' p (.tup vs)) := upd_keep zp
    have ne := q.none_new hp
    refine ⟨upd Z' p (.tup vs), Fds.flatten, q.st.laidZ hp, q.ch.laidZ q.st.sub hp, R_vl ⟨p, vs, rfl, upd_same, Rs_keep le _ (fun a ha => upd_ne (ne a ha)) (RL_deep q.val ad)⟩, fun _ => ⟨q.nd, fun a ha => ?_, q.fd⟩, fun _ _ z => (by cases z)⟩
    rw [upd_ne (ne a ha)]
    exact q.zf a ha
  | false =>
    obtain ⟨s, c, r⟩ := q.shared
    have zp := s.sub.none hp
    have le : Le (BS.zadd Z' H' Fds.flatten) (upd (BS.zadd Z' H' Fds.flatten) p (.tup vs)) := upd_keep zp
    exact ⟨upd (BS.zadd Z' H' Fds.flatten) p (.tup vs), [], s.laidZ hp, c.laidZ s.sub hp, R_vl ⟨p, vs, rfl, upd_same, Rs_keep le _ (fun _ m => (by cases m)) r⟩, fun _ => ⟨by simpa using s.nd, fun _ m => (by cases m), fun _ m => (by cases m)⟩, fun _ _ z => (by cases z)⟩

theorem Pes.lst (q : Pes K FA w Z H E Fs σ xs E' vs Z' H' Fds Fs') (hp : H' p = none) :
    ∃ Z'' Fd'', Pe K FA w none Z H E Fs σ (mkLst xs) E' (.ref p) Z'' (upd H' p (.lst vs)) Fd'' Fs' := by
  unfold mkLst
  have fresh : H p = none := q.ch.free hp
  cases ad : allDeep xs with
  | true =>
    have ne := q.none_new hp
    refine ⟨Z', p :: Fds.flatten, q.st.laid hp, q.ch.laid hp, ⟨p, vs, Fds.flatten, rfl, upd_same, Rs_keep (Le.refl _) _ (fun a ha => upd_ne (ne a ha)) (RL_deep q.val ad), rfl⟩, fun _ => ⟨?_, fun a ha => ?_, fun a ha => ?_⟩, fun _ _ z => (by cases z)⟩
    · refine List.nodup_cons.mpr ⟨fun m => ?_, q.nd⟩
      rcases List.mem_append.mp m with m | m
      · exact ne p m rfl
      · exact q.st.re.there m hp
    · rcases List.mem_cons.mp ha with rfl | ha
      · exact q.st.sub.none hp
      · exact q.zf a ha
    · rcases List.mem_cons.mp ha with rfl | ha
      · exact .inl fresh
      · exact q.fd a ha
  | false =>
    obtain ⟨s, c, r⟩ := q.shared
    refine ⟨BS.zadd Z' H' Fds.flatten, [p], s.laid hp, c.laid hp, ⟨p, vs, [], rfl, upd_same, Rs_keep (Le.refl _) _ (fun _ m => (by cases m)) r, rfl⟩, fun _ => ⟨?_, fun a ha => ?_, fun a ha => ?_⟩, fun _ _ z => (by cases z)⟩
    · refine List.nodup_cons.mpr ⟨fun m => s.re.there m hp, s.nd⟩
    · rcases List.mem_cons.mp ha with rfl | ha
      · exact s.sub.none hp
      · cases ha
    · rcases List.mem_cons.mp ha with rfl | ha
      · exact .inl fresh
      · cases ha
end
end


def SXs (B : Bk) (es : List Ex) : TA := fun σ H Q => ∃ Z E Fs xs E', Stt B.K B.FA Z H E σ Fs ∧ evs B.Φ es E = some (xs, E') ∧
  ∀ vs H' Z' Fds Fs', Pes B.K B.FA (wrs es) Z H E Fs σ xs E' vs Z' H' Fds Fs' → Q vs H'
section
variable {X : Cx} {B : Bk} {pos : Pos} {e : Expr} {es : List Expr} {a : Ex} {as : List Ex}
theorem sa_nil : PA X [] (SXs B []) := by
  refine pa_nil.imp fun σ H Q h => ?_
  obtain ⟨Z, E, Fs, xs, E', st, he, k⟩ := h
  simp only [evs, Option.some.injEq, Prod.mk.injEq] at he
  obtain ⟨rfl, rfl⟩ := he
  exact k [] H Z [] Fs ⟨st, Chg.refl _ _ _ _ _, trivial, by simpa using st.nd, fun _ m => (by simp at m), fun _ m => (by simp at m)⟩
theorem evs_cons {Φ : Phi} {E E' : En} {xs : List Val} (h : evs Φ (a :: as) E = some (xs, E')) : ∃ x E1 ys, ev Φ a E = some (x, E1) ∧ evs Φ as (esc a x E1).2 = some (ys, E') ∧ xs = (esc a x E1).1 :: ys := by
  simp only [evs, Option.bind_eq_bind, Option.bind_eq_some_iff, Prod.exists] at h
  obtain ⟨y, w, E1, h1, ys, E2, h2, h⟩ := h
  simp only [Option.some.injEq, Prod.mk.injEq] at h
  obtain ⟨rfl, rfl⟩ := h
  exact ⟨(y, w), E1, ys, h1, h2, rfl⟩
theorem Pe.cons {K : PySem.W.Frag} {FA : Nat → Addr → Prop} {w w2 : List Nat} {Z H Z1 H1 Z2 H2 : Hp} {E E1 E2 : En} {Fs Fs1 Fs2 Fds : List (List Addr)} {σ : Sl} {x : Val} {xs : List Val} {v : V} {vs : List V} {Fd : List Addr}
    (p : Pe K FA w none Z H E Fs σ x E1 v Z1 H1 Fd Fs1) (q : Pes K FA w2 Z1 H1 E1 Fs1 σ xs E2 vs Z2 H2 Fds Fs2) : Pes K FA (w ++ w2) Z H E Fs σ (x :: xs) E2 (v :: vs) Z2 H2 (Fd :: Fds) Fs2 := by
  obtain ⟨_, kr⟩ := p.keep q.ch fun _ _ z => by cases z
  obtain ⟨a1, a2, a3⟩ := p.apart q.ch
  obtain ⟨nd, _, fd⟩ := p.ex rfl
  refine ⟨q.st, p.ch.trans q.ch, ⟨kr, q.val⟩, ?_, fun a ha => ?_, fun a ha => ?_⟩
  · rw [List.flatten_cons, List.append_assoc]
    refine List.nodup_append.mpr ⟨(List.nodup_append.mp nd).1, q.nd, fun a ha b hb => ?_⟩
    rintro rfl
    rcases List.mem_append.mp hb with z | z
    · exact a3 a ha (q.fd a z)
    · exact a1 a ha z
  · rw [List.flatten_cons] at ha
    rcases List.mem_append.mp ha with z | z
    · exact a2 a z
    · exact q.zf a z
  · rw [List.flatten_cons] at ha
    rcases List.mem_append.mp ha with z | z
    · exact (fd a z).imp id fun y => y.mono fun i hi => List.mem_append_left _ hi
    · rcases q.fd a z with y | y
      · exact .inl (p.ch.free y)
      · exact (p.ch.wc y).symm
theorem sa_cons (ha : PE X e (SE B a)) (hr : PA X es (SXs B as)) (hs : starEach (e :: es) X.env = (false, eval e X.env) :: starEach es X.env := by rfl) : PA X (e :: es) (SXs B (a :: as)) := by
  refine (pa_cons ha hr hs).imp fun σ H Q h => ?_
  obtain ⟨Z, E, Fs, xs, E', st, he, k⟩ := h
  obtain ⟨x, E1, ys, h1, h2, rfl⟩ := evs_cons he
  refine se_x ⟨Z, E, Fs, x, E1, st, h1, fun v H1 Z1 Fd Fs1 p => ⟨Z1, _, Fs1, ys, E', p.st, h2, fun vs H2 Z2 Fds Fs2 q => ?_⟩⟩
  exact k (v :: vs) H2 Z2 (Fd :: Fds) Fs2 (p.cons q)
theorem sx_tup {x1} (h : PA X es (SXs B as)) (hl : as.length ≤ 1000 := by decide) : PE X (.Tuple es x1 pos) (SE B (.tup as)) := by
  refine (pe_tup h).imp fun σ H Q h => ?_
  obtain ⟨Z, E, Fs, x, E', st, he, k⟩ := h
  simp only [ev, Option.bind_eq_bind, Option.bind_eq_some_iff, Prod.exists] at he
  obtain ⟨xs, E1, h1, h2⟩ := he
  simp only [Option.some.injEq, Prod.mk.injEq] at h2
  obtain ⟨rfl, rfl⟩ := h2
  refine ⟨Z, E, Fs, xs, E1, st, h1, fun vs H1 Z1 Fds Fs1 q => ⟨?_, fun p hp => ?_⟩⟩
  · have e1 := q.val.length
    have e2 : ∀ (l : List Ex) (E E' : En) (xs : List Val), evs B.Φ l E = some (xs, E') → xs.length = l.length := fun l => by
      induction l with
      | nil => intro E E' xs h; simp only [evs, Option.some.injEq, Prod.mk.injEq] at h; rw [← h.1]; rfl
      | cons c l ih => intro E E' xs h; obtain ⟨_, _, ys, _, h2, rfl⟩ := evs_cons h; simp [ih _ _ _ h2]
    rw [e1, e2 _ _ _ _ h1]
    exact Nat.le_trans hl (by decide)
  · obtain ⟨Z2, Fd, r⟩ := q.tup hp
    exact k _ _ Z2 Fd Fs1 r
theorem sx_lst (h : PA X es (SXs B as)) (hl : as.length ≤ 1000 := by decide) : PE X (.List es pos) (SE B (.lst as)) := by
  refine (pe_lst h).imp fun σ H Q h => ?_
  obtain ⟨Z, E, Fs, x, E', st, he, k⟩ := h
  simp only [ev, Option.bind_eq_bind, Option.bind_eq_some_iff, Prod.exists] at he
  obtain ⟨xs, E1, h1, h2⟩ := he
  simp only [Option.some.injEq, Prod.mk.injEq] at h2
  obtain ⟨rfl, rfl⟩ := h2
  refine ⟨Z, E, Fs, xs, E1, st, h1, fun vs H1 Z1 Fds Fs1 q => ⟨?_, fun p hp => ?_⟩⟩
  · have e1 := q.val.length
    have e2 : ∀ (l : List Ex) (E E' : En) (xs : List Val), evs B.Φ l E = some (xs, E') → xs.length = l.length := fun l => by
      induction l with
      | nil => intro E E' xs h; simp only [evs, Option.some.injEq, Prod.mk.injEq] at h; rw [← h.1]; rfl
      | cons c l ih => intro E E' xs h; obtain ⟨_, _, ys, _, h2, rfl⟩ := evs_cons h; simp [ih _ _ _ h2]
    rw [e1, e2 _ _ _ _ h1]
    exact Nat.le_trans hl (by decide)
  · obtain ⟨Z2, Fd, r⟩ := q.lst hp
    exact k _ _ Z2 Fd Fs1 r
end
end BS

set_option Elab.async false
set_option linter.all false
set_option maxRecDepth 100000
set_option maxHeartbeats 1000000
namespace BS
open PySem PySem.Spec PyProof.Rows L2
theorem strOk_iff {s : Str} : PyData.strOk s = true ↔ ∀ c ∈ s.cps.toList, c < 0x110000 := by
  unfold PyData.strOk
  rw [Array.all_eq_true']
  constructor
  · intro h c hc
    exact of_decide_eq_true (h c (by simpa using hc))
  · intro h c hc
    exact decide_eq_true (h c (by simpa using hc))
theorem strOk_at {s : Str} {i : Int} {c : Nat} (h : PyData.strOk s = true) (e : atI s.cps.toList i = some c) : c < 0x110000 := by
  unfold atI at e
  cases q : ixN s.cps.toList.length i with
  | none => rw [q] at e; cases e
  | some j =>
    rw [q] at e
    exact strOk_iff.mp h c (List.mem_of_getElem? e)
theorem strOk_one {c : Nat} (h : c < 0x110000) : PyData.strOk ⟨#[c]⟩ = true := strOk_iff.mpr fun d hd => by
  have : d = c := by simpa using hd
  rw [this]
  exact h
section
variable {K : PySem.W.Frag} {FA : Nat → Addr → Prop} {Z Z' H H' : Hp}
theorem Rs_len : ∀ {ds : List D} {w vs F}, Rs K FA Z H w ds vs F → vs.length = ds.length
  | [], _, _, _, h => by rw [h.1]; rfl
  | d :: ds, _, _, _, ⟨v, us, A, B, e0, h1, h2, e⟩ => by rw [e0]; simp [Rs_len h2]
theorem Rs_get : ∀ {ds : List D} {w vs F} {j : Nat} {d : D}, Rs K FA Z H w ds vs F → ds[j]? = some d → ∃ v F', vs[j]? = some v ∧ R K FA Z H w d v F' ∧ F'.Sublist F
  | [], _, _, _, _, _, _, e => by simp at e
  | c :: ds, _, _, _, 0, d, ⟨v, us, A, B, e0, h1, h2, e⟩, ed => by
    simp at ed
    subst ed
    subst e0
    subst e
    exact ⟨v, A, rfl, h1, List.sublist_append_left _ _⟩
  | c :: ds, _, _, _, j + 1, d, ⟨v, us, A, B, e0, h1, h2, e⟩, ed => by
    subst e0
    subst e
    obtain ⟨v', F', a, b, c⟩ := Rs_get (j := j) h2 (by simpa using ed)
    exact ⟨v', F', by simpa using a, b, c.trans (List.sublist_append_right _ _)⟩
theorem Rs_at {ds : List D} {w vs F} {i : Int} {d : D} (h : Rs K FA Z H w ds vs F) (e : atI ds i = some d) : ∃ v F', atI vs i = some v ∧ R K FA Z H w d v F' ∧ F'.Sublist F := by
  unfold atI at e ⊢
  rw [Rs_len h]
  cases q : ixN ds.length i with
  | none => rw [q] at e; cases e
  | some j =>
    rw [q] at e
    exact Rs_get (j := j) h e
theorem Rs_drop : ∀ {ds : List D} {w vs F} (n : Nat), Rs K FA Z H w ds vs F → ∃ F', Rs K FA Z H w (ds.drop n) (vs.drop n) F' ∧ F'.Sublist F
  | ds, w, vs, F, 0, h => ⟨F, h, List.Sublist.refl _⟩
  | [], _, vs, F, n + 1, h => by
    obtain ⟨rfl, rfl⟩ := h
    exact ⟨[], ⟨rfl, rfl⟩, List.Sublist.refl _⟩
  | d :: ds, _, _, _, n + 1, ⟨v, us, A, B, e0, h1, h2, e⟩ => by
    subst e0
    subst e
    obtain ⟨F', a, b⟩ := Rs_drop n h2
    exact ⟨F', a, b.trans (List.sublist_append_right _ _)⟩
theorem Rs_take : ∀ {ds : List D} {w vs F} (n : Nat), Rs K FA Z H w ds vs F → ∃ F', Rs K FA Z H w (ds.take n) (vs.take n) F' ∧ F'.Sublist F
  | _, _, _, F, 0, h => ⟨[], ⟨rfl, rfl⟩, List.nil_sublist _⟩
  | [], _, vs, F, n + 1, h => by
    obtain ⟨rfl, rfl⟩ := h
    exact ⟨[], ⟨rfl, rfl⟩, List.Sublist.refl _⟩
  | d :: ds, _, _, _, n + 1, ⟨v, us, A, B, e0, h1, h2, e⟩ => by
    subst e0
    subst e
    obtain ⟨F', a, b⟩ := Rs_take n h2
    exact ⟨A ++ F', ⟨v, us.take n, A, F', rfl, h1, a, rfl⟩, b.append_left A⟩
theorem Rs_app : ∀ {ds ds' : List D} {w vs vs' F F'}, Rs K FA Z H w ds vs F → Rs K FA Z H w ds' vs' F' → Rs K FA Z H w (ds ++ ds') (vs ++ vs') (F ++ F')
  | [], _, _, _, _, _, _, h, h' => by
    obtain ⟨rfl, rfl⟩ := h
    exact h'
  | d :: ds, _, _, _, _, _, _, ⟨v, us, A, B, e0, h1, h2, e⟩, h' => by
    subst e0
    subst e
    exact ⟨v, _, A, B ++ _, rfl, h1, Rs_app h2 h', by rw [List.append_assoc]⟩

theorem keq_key {a b : D} {k l : Key} (ha : keyD a = some k) (hb : keyD b = some l) : keq a b = decide (k = l) := by
  cases a <;> simp [keyD] at ha <;> cases b <;> simp [keyD] at hb <;> subst ha <;> subst hb <;> simp [keq]
theorem keqs_key : ∀ {as bs : List D} {ks ls : List Key}, keyL as = some ks → keyL bs = some ls → keqs as bs = decide (ks = ls)
  | [], [], _, _, ha, hb => by
    simp [keyL] at ha hb
    subst ha
    subst hb
    simp [keqs]
  | [], b :: bs, _, _, ha, hb => by
    simp [keyL] at ha
    simp only [keyL] at hb
    split at hb
    · cases hb
      subst ha
      simp [keqs]
    · cases hb
  | a :: as, [], _, _, ha, hb => by
    simp [keyL] at hb
    simp only [keyL] at ha
    split at ha
    · cases ha
      subst hb
      simp [keqs]
    · cases ha
  | a :: as, b :: bs, _, _, ha, hb => by
    simp only [keyL] at ha hb
    split at ha
    · rename_i k ks e1 e2
      cases ha
      split at hb
      · rename_i l ls f1 f2
        cases hb
        simp only [keqs, keq_key e1 f1, keqs_key e2 f2, List.cons.injEq, Bool.decide_and]
      · cases hb
    · cases ha
theorem keq_keyT {a b : D} {k l : List Key} (ha : keyT a = some k) (hb : keyT b = some l) : keq a b = decide (k = l) := by
  cases a <;> simp [keyT] at ha
  cases b <;> simp [keyT] at hb
  simp only [keq]
  exact keqs_key ha hb
theorem RK_get : ∀ {kvs : List (D × D)} {w kv F} {k : D} {key : Key}, RK K FA Z H w kvs kv F → keyD k = some key → (∀ d, dget kvs k = some d → ∃ v F', valV kv key = some v ∧ R K FA Z H w d v F' ∧ F'.Sublist F) ∧ (dget kvs k = none → valV kv key = none)
  | [], _, _, _, _, _, h, hk => by
    rw [h.1]
    exact ⟨fun d e => by simp [dget] at e, fun _ => rfl⟩
  | (a, d) :: kvs, w, _, _, k, key, ⟨k0, v, us, A, C, e0, ek, h1, h2, e⟩, hk => by
    subst e0
    subst e
    have ih := RK_get (k := k) (key := key) h2 hk
    unfold dget valV
    rw [keq_key ek hk, List.find?_cons]
    by_cases q : k0 = key
    · simp only [q, decide_true, if_true]
      exact ⟨fun d' e => by cases e; exact ⟨v, A, rfl, h1, List.sublist_append_left _ _⟩, fun z => by cases z⟩
    · simp only [q, decide_false, Bool.false_eq_true, if_false]
      exact ⟨fun d' e => let ⟨v', F', x, y, z⟩ := ih.1 d' e; ⟨v', F', x, y, z.trans (List.sublist_append_right _ _)⟩, ih.2⟩
theorem RT_get : ∀ {kvs : List (D × D)} {w kv F} {k : D} {key : List Key}, RT K FA Z H w kvs kv F → keyT k = some key → (∀ d, dget kvs k = some d → ∃ v F', valV kv key = some v ∧ R K FA Z H w d v F' ∧ F'.Sublist F) ∧ (dget kvs k = none → valV kv key = none)
  | [], _, _, _, _, _, h, hk => by
    rw [h.1]
    exact ⟨fun d e => by simp [dget] at e, fun _ => rfl⟩
  | (a, d) :: kvs, w, _, _, k, key, ⟨k0, v, us, A, C, e0, ek, h1, h2, e⟩, hk => by
    subst e0
    subst e
    have ih := RT_get (k := k) (key := key) h2 hk
    unfold dget valV
    rw [keq_keyT ek hk, List.find?_cons]
    by_cases q : k0 = key
    · simp only [q, decide_true, if_true]
      exact ⟨fun d' e => by cases e; exact ⟨v, A, rfl, h1, List.sublist_append_left _ _⟩, fun z => by cases z⟩
    · simp only [q, decide_false, Bool.false_eq_true, if_false]
      exact ⟨fun d' e => let ⟨v', F', x, y, z⟩ := ih.1 d' e; ⟨v', F', x, y, z.trans (List.sublist_append_right _ _)⟩, ih.2⟩
theorem key_val {k : D} {key : Key} {w u F} (h : keyD k = some key) (r : R K FA Z H w k u F) : u = kV key := by
  cases k <;> simp [keyD] at h <;> subst h
  · exact r.1
  · exact r.1.1
theorem keyL_val : ∀ {ks : List D} {keys : List Key} {w us F}, keyL ks = some keys → Rs K FA Z H w ks us F → us = keys.map kV
  | [], _, _, _, _, h, r => by
    simp [keyL] at h
    subst h
    exact r.1
  | k :: ks, _, _, _, _, h, ⟨v, us, A, C, e0, h1, h2, e⟩ => by
    simp only [keyL] at h
    split at h
    · rename_i k0 ks0 e1 e2
      cases h
      rw [e0, key_val e1 h1, keyL_val e2 h2]
      rfl
    · cases h
theorem keyT_val {k : D} {keys : List Key} {w u F} (hs : Sub Z H) (h : keyT k = some keys) (r : R K FA Z H w k u F) : ∃ t, u = .ref t ∧ H t = some (.tup (keys.map kV)) := by
  cases k <;> simp [keyT] at h
  obtain ⟨t, vs, e, q, rs⟩ := r
  rw [keyL_val h rs] at q
  exact ⟨t, e, tup_sub hs q⟩

theorem R_dget {tt : Bool} {kvs : List (D × D)} {k : D} {w w' v u F F'} (hs : Sub Z H) (h : R K FA Z H w (.dic tt kvs) v F) (hk : keyOk tt k = true) (r : R K FA Z H w' k u F') :
    ∃ p o, v = .ref p ∧ DGet H p u o ∧ (dget kvs k = none → o = none) ∧ ∀ d, dget kvs k = some d → ∃ v' F2, o = some v' ∧ R K FA Z H (kid w) d v' F2 ∧ F2.Sublist F ∧ ∀ a ∈ F2, a ∈ F.tail ∨ w = .sh := by
  obtain ⟨p, G, e, q, ef⟩ := h
  have sub : ∀ {F2 : List Addr}, F2.Sublist G → F2.Sublist F ∧ ∀ a ∈ F2, a ∈ F.tail ∨ w = .sh := fun {F2} z => by
    rw [ef]
    cases w
    · exact ⟨z, fun a ha => .inr rfl⟩
    · exact ⟨z.trans (List.sublist_cons_self _ _), fun a ha => .inl (z.subset ha)⟩
    · exact ⟨z.trans (List.sublist_cons_self _ _), fun a ha => .inl (z.subset ha)⟩
  rcases q with ⟨et, kv, c, hn, hr⟩ | ⟨et, kv, c, hn, hr⟩
  · subst et
    simp only [keyOk, Bool.false_eq_true, if_false] at hk
    obtain ⟨key, hkey⟩ := Option.isSome_iff_exists.mp hk
    obtain ⟨g1, g2⟩ := RK_get hr hkey
    refine ⟨p, valV kv key, e, .inl ⟨kv, key, c.sub hs trivial, key_val hkey r, rfl⟩, g2, fun d hd => ?_⟩
    obtain ⟨v', F2, x, y, z⟩ := g1 d hd
    exact ⟨v', F2, x, y, sub z⟩
  · subst et
    simp only [keyOk, if_true] at hk
    obtain ⟨key, hkey⟩ := Option.isSome_iff_exists.mp hk
    obtain ⟨g1, g2⟩ := RT_get hr hkey
    obtain ⟨t, rfl, ht⟩ := keyT_val hs hkey r
    refine ⟨p, valV kv key, e, .inr ⟨kv, key, t, c.sub hs trivial, rfl, ht, rfl⟩, g2, fun d hd => ?_⟩
    obtain ⟨v', F2, x, y, z⟩ := g1 d hd
    exact ⟨v', F2, x, y, sub z⟩
end


section
variable {X : Cx} {B : Bk} {pos : Pos} {ea ek : Expr} {a k : Ex}
theorem sx_ix (hu : X.A.units + 1 < cLine) (ha : PE X ea (SE B a)) (hk : PE X ek (SE B k)) (hs : PlainIx ek := by exact fun _ _ => rfl) (hn : NoSl ek := by exact fun _ _ => rfl) (hK : X.K = B.K := by rfl) : PE X (.Subscript ea ek pos) (SE B (.ix a k)) := by
  refine ((pe_ix ix_seq ha hk hs).or (pe_dget hu ha hk hn)).imp fun σ H Q h => ?_
  obtain ⟨Z, E, Fs, x, E', st, he, kk⟩ := h
  simp only [ev, Option.bind_eq_bind, Option.bind_eq_some_iff, Prod.exists] at he
  obtain ⟨y, w, E1, h1, he⟩ := he
  by_cases hb : brw a (wr k) (y, w) = true
  · rw [if_pos hb] at he
    simp only [Option.bind_eq_some_iff, Prod.exists] at he
    obtain ⟨z, w', E2, h2, d, h3, e⟩ := he
    simp only [Option.some.injEq, Prod.mk.injEq] at e
    obtain ⟨rfl, rfl⟩ := e
    -- both evaluated; then a part
    have key : ∀ {R2 : V → V → Hp → Prop}, (∀ v u H2 Z2 F1 F2, Sub Z2 H2 → R B.K B.FA Z2 H2 w y v F1 → R B.K B.FA Z2 H2 w' z u F2 →
        (∀ v' F', R B.K B.FA Z2 H2 (kid w) d v' F' → F'.Sublist F1 → (∀ b ∈ F', b ∈ inn true (some (y, w)) F1) → Q v' H2) → R2 v u H2) →
        SE B a σ H fun v H1 => SE B k σ H1 fun u H2 => R2 v u H2 := fun {R2} f => by
      refine ⟨Z, E, Fs, (y, w), E1, st, h1, fun v H1 Z1 F1 Fs1 p => ?_⟩
      refine ⟨Z1, E1, Fs1, (z, w'), E2, p.st, h2, fun u H2 Z2 F2 Fs2 q => ?_⟩
      obtain ⟨_, kr⟩ := p.keep q.ch (brw_ok hb)
      refine f v u H2 Z2 F1 F2 q.st.sub kr q.val fun v' F' hr hsub hin => ?_
      refine kk v' H2 Z2 F' Fs2 ⟨q.st, p.ch.trans q.ch, R_vl hr, fun ep => ?_, fun i b ep => ?_⟩
      · have hpl : isPl a = false := by
          cases hp : isPl a with
          | false => rfl
          | true => simp [pr, hp] at ep
        have en : pr a = none := by simp [pr, hpl]
        rw [en] at p
        obtain ⟨nd, zf, fd⟩ := p.ex rfl
        obtain ⟨a1, a2, _⟩ := p.apart q.ch
        refine ⟨List.nodup_append.mpr ⟨((List.nodup_append.mp nd).1).sublist hsub, q.st.nd, fun c hc c' hc' => ?_⟩, fun c hc => a2 c (hsub.subset hc), fun c hc => ?_⟩
        · rintro rfl
          exact a1 c (hsub.subset hc) hc'
        · exact (fd c (hsub.subset hc)).imp id fun y => y.mono fun i hi => List.mem_append_left _ hi
      · have hpl : isPl a = true := by
          cases hp : isPl a with
          | true => rfl
          | false => simp [pr, hp] at ep
        simp only [pr, isPl, hpl, if_true, root, isIx, Option.some.injEq, Prod.mk.injEq] at ep
        obtain ⟨rfl, rfl⟩ := ep
        refine ⟨fun c hc => ?_, fun z => by cases z⟩
        have ea : pr a = some (root a, isIx a) := by simp [pr, hpl]
        rcases brw_ok hb _ _ ea with pp | nw
        · obtain ⟨e0, _⟩ := R_plain _ pp p.val
          rw [e0] at hsub
          rw [List.sublist_nil.mp hsub] at hc
          cases hc
        · obtain ⟨s1, s2⟩ := q.ch.same _ nw
          have pl := p.pl _ _ ea
          rw [List.getD_eq_getElem?_getD, s1, ← List.getD_eq_getElem?_getD, s2]
          cases ix : isIx a with
          | true =>
            rw [ix] at pl
            exact pl.1 c (hsub.subset hc)
          | false =>
            obtain ⟨e1, e2⟩ := pl.2 ix
            rw [e1, e2]
            exact hin c hc
    have seq : ∀ {ys : List D} {i : Int} {vs : List V} {G F1 : List Addr} {Z2 H2 : Hp}, atI ys i = some d → Rs B.K B.FA Z2 H2 (kid w) ys vs G → G.Sublist F1 → (∀ b ∈ G, b ∈ inn true (some (y, w)) F1) →
        (∀ v' F', R B.K B.FA Z2 H2 (kid w) d v' F' → F'.Sublist F1 → (∀ b ∈ F', b ∈ inn true (some (y, w)) F1) → Q v' H2) → ∃ v', atI vs i = some v' ∧ Q v' H2 := fun {ys i vs G F1 Z2 H2} ei hr hg hi f => by
      obtain ⟨v', F', e1, r1, s1⟩ := Rs_at hr ei
      exact ⟨v', e1, f v' F' r1 (s1.trans hg) fun b hb => hi b (s1.subset hb)⟩
    cases y with
    | lst ys =>
      cases z with
      | int i =>
        refine .inl (key fun v u H2 Z2 F1 F2 hs r1 r2 f => .inl ?_)
        obtain ⟨p, vs, G, rfl, q, hr, ef⟩ := r1
        obtain ⟨rfl, _⟩ := r2
        obtain ⟨v', e1, g⟩ := seq (F1 := F1) h3 hr (by rw [ef]; cases w; exact List.Sublist.refl _; exact List.sublist_cons_self _ _; exact List.sublist_cons_self _ _) (fun b hm => by
          rw [ef]
          cases w
          · rw [Rs_sh _ hr] at hm; cases hm
          · exact hm
          · exact hm) f
        exact ⟨p, vs, i, v', rfl, rfl, hK ▸ q.sub hs, e1, g⟩
      | _ => simp [item] at h3
    | tup ys =>
      cases z with
      | int i =>
        refine .inl (key fun v u H2 Z2 F1 F2 hs r1 r2 f => .inr (.inl ?_))
        obtain ⟨p, vs, rfl, q, hr⟩ := r1
        obtain ⟨rfl, _⟩ := r2
        obtain ⟨v', e1, g⟩ := seq (F1 := F1) h3 hr (List.Sublist.refl _) (fun b hb => hb) f
        exact ⟨p, vs, i, v', rfl, rfl, SqT.of (tup_sub hs q), e1, g⟩
      | _ => simp [item] at h3
    | scr ns =>
      cases z with
      | int i =>
        refine .inl (key fun v u H2 Z2 F1 F2 hs r1 r2 f => .inl ?_)
        obtain ⟨⟨p, rfl, q⟩, ef⟩ := r1
        obtain ⟨rfl, _⟩ := r2
        simp only [item, Option.map_eq_some_iff] at h3
        obtain ⟨n, h3, rfl⟩ := h3
        refine ⟨p, ns.map V.int, i, .int n, rfl, rfl, hK ▸ SqL.sub hs q, ?_, f _ [] ⟨rfl, rfl⟩ (List.nil_sublist _) fun b hb => by cases hb⟩
        unfold atI at h3 ⊢
        rw [List.length_map]
        cases qq : ixN ns.length i with
        | none => rw [qq] at h3; cases h3
        | some j =>
          rw [qq] at h3
          simp only [Option.bind_some] at h3 ⊢
          rw [List.getElem?_map, h3]
          rfl
      | _ => simp [item] at h3
    | str s =>
      cases z with
      | int i =>
        refine .inl (key fun v u H2 Z2 F1 F2 hs r1 r2 f => .inr (.inr ?_))
        obtain ⟨⟨rfl, hl, hok⟩, _⟩ := r1
        obtain ⟨rfl, _⟩ := r2
        simp only [item, Option.map_eq_some_iff] at h3
        obtain ⟨c, h3, rfl⟩ := h3
        exact ⟨s, i, c, rfl, rfl, hl, h3, f _ [] ⟨⟨rfl, (by decide : 1 ≤ 16777216), strOk_one (strOk_at hok h3)⟩, rfl⟩ (List.nil_sublist _) fun b hb => by cases hb⟩
      | _ => simp [item] at h3
    | dic tt kvs =>
      have h3' : keyOk tt z = true ∧ dget kvs z = some d := by
        cases hk : keyOk tt z with
        | false => simp [item, hk] at h3
        | true => simpa [item, hk] using h3
      refine .inr (key fun v u H2 Z2 F1 F2 hs r1 r2 f => ?_)
      obtain ⟨p, o, rfl, dg, _, g⟩ := R_dget hs r1 h3'.1 r2
      obtain ⟨v', F', rfl, r', s', t'⟩ := g d h3'.2
      refine ⟨p, v', rfl, dg, f v' F' r' s' fun b hm => ?_⟩
      rcases t' b hm with z | rfl
      · exact z
      · rw [R_sh _ r'] at hm; cases hm
    | _ => simp [item] at h3
  · rw [if_neg hb] at he
    cases he
end
end BS

set_option Elab.async false
set_option linter.all false
set_option maxRecDepth 100000
set_option maxHeartbeats 2000000
namespace BS
open PySem PySem.Spec PyProof.Rows L2

section
variable {K : PySem.W.Frag} {FA : Nat → Addr → Prop} {Z Z' H H' : Hp}
mutual
theorem R_Dp (hs : Sub Z H) : ∀ (d : D) {n w v F}, shp n d = true → R K FA Z H w d v F → Dp K H v (toPD d)
  | .non, _, _, _, _, _, h => by rw [h.1]; exact .non
  | .bl b, _, _, _, _, _, h => by rw [h.1]; exact .bl b
  | .int i, _, _, _, _, _, h => by rw [h.1]; exact .int i
  | .str s, _, _, _, _, _, h => by rw [h.1.1]; exact .str s
  | .lst ds, 0, _, _, _, s, _ => by simp [shp] at s
  | .lst ds, n + 1, _, _, _, s, ⟨p, vs, G, e, q, h, ef⟩ => by
    rw [e]
    exact .lst (q.sub hs) (Rs_Dp hs ds (n := n) (by simpa [shp] using s) h)
  | .tup ds, 0, _, _, _, s, _ => by simp [shp] at s
  | .tup ds, n + 1, _, _, _, s, ⟨t, vs, e, q, h⟩ => by
    rw [e]
    exact .tup (SqT.of (tup_sub hs q)) (Rs_Dp hs ds (n := n) (by simpa [shp] using s) h)
  | .fn _, n, _, _, _, s, _ => by cases n <;> simp [shp] at s
  | .scr _, n, _, _, _, s, _ => by cases n <;> simp [shp] at s
  | .dic _ _, n, _, _, _, s, _ => by cases n <;> simp [shp] at s
theorem Rs_Dp (hs : Sub Z H) : ∀ (ds : List D) {n w vs F}, shps n ds = true → Rs K FA Z H w ds vs F → DpAll K H vs (toPDs ds)
  | [], _, _, _, _, _, h => by rw [h.1]; exact .nil
  | d :: ds, n, _, _, _, s, ⟨v, us, A, C, e0, h1, h2, e⟩ => by
    rw [e0]
    simp only [shps, Bool.and_eq_true] at s
    exact .cons (R_Dp hs d s.1 h1) (Rs_Dp hs ds s.2 h2)
end
mutual
theorem R_lay : ∀ (d : D) {n w v F}, shp n d = true → R K FA Z H w d v F → (toPD d).canLay0 = true ∧ (toPD d).depth ≤ n
  | .non, _, _, _, _, _, h => ⟨rfl, Nat.zero_le _⟩
  | .bl b, _, _, _, _, _, h => ⟨rfl, Nat.zero_le _⟩
  | .int i, _, _, _, _, _, h => ⟨rfl, Nat.zero_le _⟩
  | .str s, _, _, _, _, _, h => ⟨h.1.2.2, Nat.zero_le _⟩
  | .lst ds, 0, _, _, _, s, _ => by simp [shp] at s
  | .lst ds, n + 1, _, _, _, s, ⟨p, vs, G, e, q, h, ef⟩ => by
    obtain ⟨a, b⟩ := Rs_lay ds (n := n) (by simpa [shp] using s) h
    exact ⟨a, Nat.succ_le_succ b⟩
  | .tup ds, 0, _, _, _, s, _ => by simp [shp] at s
  | .tup ds, n + 1, _, _, _, s, ⟨t, vs, e, q, h⟩ => by
    obtain ⟨a, b⟩ := Rs_lay ds (n := n) (by simpa [shp] using s) h
    exact ⟨a, Nat.succ_le_succ b⟩
  | .fn _, n, _, _, _, s, _ => by cases n <;> simp [shp] at s
  | .scr _, n, _, _, _, s, _ => by cases n <;> simp [shp] at s
  | .dic _ _, n, _, _, _, s, _ => by cases n <;> simp [shp] at s
theorem Rs_lay : ∀ (ds : List D) {n w vs F}, shps n ds = true → Rs K FA Z H w ds vs F → PyData.canLayAll0 (toPDs ds) = true ∧ PyData.depthAll (toPDs ds) ≤ n
  | [], _, _, _, _, _, h => ⟨rfl, Nat.zero_le _⟩
  | d :: ds, n, _, _, _, s, ⟨v, us, A, C, e0, h1, h2, e⟩ => by
    simp only [shps, Bool.and_eq_true] at s
    obtain ⟨a, b⟩ := R_lay d s.1 h1
    obtain ⟨a', b'⟩ := Rs_lay ds s.2 h2
    exact ⟨by show (PyData.canLay0 _ && PyData.canLayAll0 _) = true; rw [a, a']; rfl, Nat.max_le.mpr ⟨b, b'⟩⟩
end
end
mutual
theorem deq_eqv : ∀ (a b : D) {n m}, shp n a = true → shp m b = true → PyData.eqv (toPD a) (toPD b) = deq a b
  | .lst xs, .lst ys, n, m, s, t => by
    cases n with
    | zero => simp [shp] at s
    | succ n =>
      cases m with
      | zero => simp [shp] at t
      | succ m =>
        simp only [toPD, PyData.eqv, deq]
        exact deqs_eqv xs ys (by simpa [shp] using s) (by simpa [shp] using t)
  | .tup xs, .tup ys, n, m, s, t => by
    cases n with
    | zero => simp [shp] at s
    | succ n =>
      cases m with
      | zero => simp [shp] at t
      | succ m =>
        simp only [toPD, PyData.eqv, deq]
        exact deqs_eqv xs ys (by simpa [shp] using s) (by simpa [shp] using t)
  | .str x, .str y, _, _, _, _ => by simp only [toPD, PyData.eqv, deq, Bool.beq_eq_decide_eq]
  | .fn _, _, n, _, s, _ => by cases n <;> simp [shp] at s
  | .scr _, _, n, _, s, _ => by cases n <;> simp [shp] at s
  | .dic _ _, _, n, _, s, _ => by cases n <;> simp [shp] at s
  | .non, b, _, m, _, t => by cases b <;> first | rfl | (cases m <;> simp [shp] at t)
  | .bl x, b, _, m, _, t => by cases b <;> first | rfl | (cases m <;> simp [shp] at t)
  | .int x, b, _, m, _, t => by cases b <;> first | rfl | (cases m <;> simp [shp] at t)
  | .str x, .non, _, _, _, _ => rfl
  | .str x, .bl _, _, _, _, _ => rfl
  | .str x, .int _, _, _, _, _ => rfl
  | .str x, .lst _, _, _, _, _ => rfl
  | .str x, .tup _, _, _, _, _ => rfl
  | .str x, .fn _, _, m, _, t => by cases m <;> simp [shp] at t
  | .str x, .scr _, _, m, _, t => by cases m <;> simp [shp] at t
  | .str x, .dic _ _, _, m, _, t => by cases m <;> simp [shp] at t
  | .lst x, .non, _, _, _, _ => rfl
  | .lst x, .bl _, _, _, _, _ => rfl
  | .lst x, .int _, _, _, _, _ => rfl
  | .lst x, .str _, _, _, _, _ => rfl
  | .lst x, .tup _, _, _, _, _ => rfl
  | .lst x, .fn _, _, m, _, t => by cases m <;> simp [shp] at t
  | .lst x, .scr _, _, m, _, t => by cases m <;> simp [shp] at t
  | .lst x, .dic _ _, _, m, _, t => by cases m <;> simp [shp] at t
  | .tup x, .non, _, _, _, _ => rfl
  | .tup x, .bl _, _, _, _, _ => rfl
  | .tup x, .int _, _, _, _, _ => rfl
  | .tup x, .str _, _, _, _, _ => rfl
  | .tup x, .lst _, _, _, _, _ => rfl
  | .tup x, .fn _, _, m, _, t => by cases m <;> simp [shp] at t
  | .tup x, .scr _, _, m, _, t => by cases m <;> simp [shp] at t
  | .tup x, .dic _ _, _, m, _, t => by cases m <;> simp [shp] at t
theorem deqs_eqv : ∀ (xs ys : List D) {n m}, shps n xs = true → shps m ys = true → PyData.eqvAll (toPDs xs) (toPDs ys) = deqs xs ys
  | [], [], _, _, _, _ => rfl
  | [], _ :: _, _, _, _, _ => rfl
  | _ :: _, [], _, _, _, _ => rfl
  | x :: xs, y :: ys, n, m, s, t => by
    simp only [shps, Bool.and_eq_true] at s t
    simp only [toPDs, PyData.eqvAll, deqs, deq_eqv x y s.1 t.1, deqs_eqv xs ys s.2 t.2]
end
section
variable {B : Bk}
theorem ok_eq : Ok2 B (app2 .eq) (rEqD B.K) := by
  intro a b d' v u w w' F F' Z H Q hs r1 r2 he k
  simp only [app2] at he
  split at he
  · rename_i hc
    simp only [Bool.and_eq_true] at hc
    cases he
    refine ⟨toPD a, toPD b, R_Dp hs a hc.1 r1, R_Dp hs b hc.2 r2, ?_, ?_, ?_⟩
    · obtain ⟨x, y⟩ := R_lay a hc.1 r1
      unfold SeqAt.shaped
      rw [x, decide_eq_true (by omega)]
      rfl
    · obtain ⟨x, y⟩ := R_lay b hc.2 r2
      unfold SeqAt.shaped
      rw [x, decide_eq_true (by omega)]
      rfl
    · rw [deq_eqv a b hc.1 hc.2]
      exact k _ fun w => ⟨rfl, rfl⟩
  · cases he
theorem ok_ne : Ok2 B (app2 .ne) (rNeD B.K) := by
  intro a b d' v u w w' F F' Z H Q hs r1 r2 he k
  simp only [app2] at he
  split at he
  · rename_i hc
    simp only [Bool.and_eq_true] at hc
    cases he
    refine ⟨toPD a, toPD b, R_Dp hs a hc.1 r1, R_Dp hs b hc.2 r2, ?_, ?_, ?_⟩
    · obtain ⟨x, y⟩ := R_lay a hc.1 r1
      unfold SeqAt.shaped
      rw [x, decide_eq_true (by omega)]
      rfl
    · obtain ⟨x, y⟩ := R_lay b hc.2 r2
      unfold SeqAt.shaped
      rw [x, decide_eq_true (by omega)]
      rfl
    · rw [deq_eqv a b hc.1 hc.2]
      exact k _ fun w => ⟨rfl, rfl⟩
  · cases he

theorem fold_app_list : ∀ (l : List (Array Nat)) (a : Array Nat), (l.foldl (· ++ ·) a).toList = a.toList ++ (l.map Array.toList).flatten
  | [], a => by simp
  | x :: l, a => by
    rw [List.foldl_cons, fold_app_list l]
    simp
theorem srep_toList {s : Str} {n : Nat} : ((List.replicate n s.cps).foldl (· ++ ·) #[]).toList = (List.replicate n s.cps.toList).flatten := by
  rw [fold_app_list]
  simp
theorem srep_len {s : Str} {k : Int} (h : 0 ≤ k) : (srep s k).length = s.length * k.toNat := by
  unfold srep
  split
  · rename_i hc
    have : k.toNat = 0 := by omega
    rw [this]
    rfl
  · split
    · rename_i _ hc
      simp only [Bool.or_eq_true, beq_iff_eq] at hc
      rcases hc with rfl | hc
      · simp
      · rw [hc]; simp
    · show ((List.replicate k.toNat s.cps).foldl (· ++ ·) #[]).size = _
      rw [← Array.length_toList, srep_toList]
      simp
      show k.toNat * s.length = _
      exact Nat.mul_comm _ _
theorem srep_ok {s : Str} {k : Int} (h : PyData.strOk s = true) : PyData.strOk (srep s k) = true := by
  unfold srep
  split
  · decide +kernel
  · split
    · exact h
    · rw [strOk_iff] at h ⊢
      intro c hc
      have hc' : c ∈ ((List.replicate k.toNat s.cps).foldl (· ++ ·) #[]).toList := hc
      rw [srep_toList] at hc'
      simp only [List.mem_flatten, List.mem_replicate] at hc'
      obtain ⟨l, ⟨_, rfl⟩, hl⟩ := hc'
      exact h c hl

theorem ok_sub : Ok2 B (app2 .sub) (rI0 fun i j => .int (i - j)) := by
  intro a b d' v u w w' F F' Z H Q hs r1 r2 he k
  cases a <;> cases b <;> simp [app2] at he
  subst he
  exact ⟨_, _, r1.1, r2.1, k _ fun w => ⟨rfl, rfl⟩⟩
theorem strOk_app {a b : Str} (ha : PyData.strOk a = true) (hb : PyData.strOk b = true) : PyData.strOk (a ++ b) = true := by
  rw [strOk_iff] at ha hb ⊢
  intro c hc
  have : c ∈ a.cps.toList ∨ c ∈ b.cps.toList := by
    have e : (a ++ b).cps = a.cps ++ b.cps := rfl
    rw [e] at hc
    simpa using hc
  exact this.elim (ha c) (hb c)
theorem ok_add : Ok2 B (app2 .add) (fun x y H Q => (rI0 fun i j => .int (i + j)) x y H Q ∨ ∃ i j, x = .str i ∧ y = .str j ∧ i.length + j.length ≤ sizeLine ∧ Q (.str (i ++ j)) H) := by
  intro a b d' v u w w' F F' Z H Q hs r1 r2 he k
  cases a <;> cases b <;> simp [app2] at he
  · subst he
    exact .inl ⟨_, _, r1.1, r2.1, k _ fun w => ⟨rfl, rfl⟩⟩
  · obtain ⟨hl, he⟩ := he
    subst he
    refine .inr ⟨_, _, r1.1.1, r2.1.1, hl, k _ fun w => ⟨⟨rfl, ?_, strOk_app r1.1.2.2 r2.1.2.2⟩, rfl⟩⟩
    have e : ∀ i j : Str, (i ++ j).length = i.length + j.length := fun i j => by
      show (i.cps ++ j.cps).size = _
      simp
      rfl
    rw [e]
    exact hl
theorem ok_mul : Ok2 B (app2 .mul) (fun x y H Q => (rI CMul fun i j => .int (i * j)) x y H Q ∨ ∃ s k, x = .str s ∧ y = .int k ∧ 0 ≤ k ∧ k < 2 ^ 62 ∧ s.length * k.toNat ≤ sizeLine ∧ Q (.str (srep s k)) H) := by
  intro a b d' v u w w' F F' Z H Q hs r1 r2 he k
  cases a <;> cases b <;> simp [app2] at he
  · obtain ⟨hc, he⟩ := he
    subst he
    exact .inl ⟨_, _, r1.1, r2.1, hc, k _ fun w => ⟨rfl, rfl⟩⟩
  · obtain ⟨⟨h1, h2, h3⟩, he⟩ := he
    subst he
    exact .inr ⟨_, _, r1.1.1, r2.1, h1, h2, h3, k _ fun w => ⟨⟨rfl, by rw [srep_len h1]; exact h3, srep_ok r1.1.2.2⟩, rfl⟩⟩
theorem ok_fdiv : Ok2 B (app2 .fdiv) (rI CDiv fun i j => .int (i / j)) := by
  intro a b d' v u w w' F F' Z H Q hs r1 r2 he k
  cases a <;> cases b <;> simp [app2] at he
  obtain ⟨hc, he⟩ := he
  subst he
  exact ⟨_, _, r1.1, r2.1, hc, k _ fun w => ⟨rfl, rfl⟩⟩
theorem ok_mod : Ok2 B (app2 .mod) (rI (fun _ j => 0 < j) fun i j => .int (i % j)) := by
  intro a b d' v u w w' F F' Z H Q hs r1 r2 he k
  cases a <;> cases b <;> simp [app2] at he
  obtain ⟨hc, he⟩ := he
  subst he
  exact ⟨_, _, r1.1, r2.1, hc, k _ fun w => ⟨rfl, rfl⟩⟩
theorem ok_pow : Ok2 B (app2 .pow) (rI CPow fun i j => .int (i ^ j.toNat)) := by
  intro a b d' v u w w' F F' Z H Q hs r1 r2 he k
  cases a <;> cases b <;> simp [app2] at he
  obtain ⟨hc, he⟩ := he
  subst he
  exact ⟨_, _, r1.1, r2.1, hc, k _ fun w => ⟨rfl, rfl⟩⟩
theorem ok_lt : Ok2 B (app2 .lt) (rI0 fun i j => .bl (decide (i < j))) := by
  intro a b d' v u w w' F F' Z H Q hs r1 r2 he k
  cases a <;> cases b <;> simp [app2] at he
  subst he
  exact ⟨_, _, r1.1, r2.1, k _ fun w => ⟨rfl, rfl⟩⟩
theorem ok_le : Ok2 B (app2 .le) (rI0 fun i j => .bl (decide (i ≤ j))) := by
  intro a b d' v u w w' F F' Z H Q hs r1 r2 he k
  cases a <;> cases b <;> simp [app2] at he
  subst he
  exact ⟨_, _, r1.1, r2.1, k _ fun w => ⟨rfl, rfl⟩⟩
theorem ok_gt : Ok2 B (app2 .gt) (rI0 fun i j => .bl (decide (j < i))) := by
  intro a b d' v u w w' F F' Z H Q hs r1 r2 he k
  cases a <;> cases b <;> simp [app2] at he
  subst he
  exact ⟨_, _, r1.1, r2.1, k _ fun w => ⟨rfl, rfl⟩⟩
theorem ok_neg : Ok1 B (app1 .neg) (rU fun i => .int (-i)) := by
  intro a d' v w F Z H Q hs r1 he k
  cases a <;> simp [app1] at he
  subst he
  exact ⟨_, r1.1, k _ fun w => ⟨rfl, rfl⟩⟩
end
section
variable {X : Cx} {B : Bk} {pos p : Pos} {ea eb : Expr} {a b : Ex}
theorem op_srep : OpR X (binaryOp .Mult) (fun x y H Q => ∃ s k, x = .str s ∧ y = .int k ∧ 0 ≤ k ∧ k < 2 ^ 62 ∧ s.length * k.toNat ≤ sizeLine ∧ Q (.str (srep s k)) H) := by
  intro pins s σ H x y v u Q I rx ry h
  obtain ⟨z, k, rfl, rfl, h1, h2, hz, q⟩ := h
  obtain ⟨t, rfl⟩ := rx
  obtain ⟨t2, rfl⟩ := ry
  refine PySem.P.mul_str ?_ (fun n1 _ => ?_) (fun n1 _ => ?_) ?_
  · rw [decide_eq_false (by omega), decide_eq_false (by omega)]
    rfl
  · have e : sizeLine = 16777216 := by decide +kernel
    have : (z.length : Int) * k ≤ 16777216 := by
      have e2 : k = (k.toNat : Int) := (Int.toNat_of_nonneg h1).symm
      rw [e2, ← Int.natCast_mul]
      omega
    intro hgt
    have h3 := Int.lt_mul_of_ediv_lt (by omega : 0 < k) hgt
    omega
  · exact PyProof.Rows.short24 hz
  · unfold srep at q
    split
    · rename_i hc
      rw [if_pos hc] at q
      exact ⟨by decide, .str _, H, I.tok _, ⟨_, rfl⟩, q⟩
    · rename_i hc
      rw [if_neg hc] at q
      split
      · rename_i hd
        rw [if_pos hd] at q
        exact ⟨.str _, H, I, ⟨_, rfl⟩, q⟩
      · rename_i hd
        rw [if_neg hd] at q
        exact ⟨by have e := srep_len (s := z) h1; unfold srep at e; rw [if_neg hc, if_neg hd] at e; rw [e]; exact hz, .str _, H, I.tok _, ⟨_, rfl⟩, q⟩
theorem sx_add (ha : PE X ea (SE B a)) (hb : PE X eb (SE B b)) : PE X (.BinOp ea .Add eb pos) (SE B (.op2 .add a b)) := sx_bin (op_add.or op_add_str) ok_add ha hb
theorem sx_sub (ha : PE X ea (SE B a)) (hb : PE X eb (SE B b)) : PE X (.BinOp ea .Sub eb pos) (SE B (.op2 .sub a b)) := sx_bin op_sub ok_sub ha hb
theorem sx_mul (ha : PE X ea (SE B a)) (hb : PE X eb (SE B b)) : PE X (.BinOp ea .Mult eb pos) (SE B (.op2 .mul a b)) := sx_bin (op_mul.or op_srep) ok_mul ha hb
theorem sx_fdiv (ha : PE X ea (SE B a)) (hb : PE X eb (SE B b)) : PE X (.BinOp ea .FloorDiv eb pos) (SE B (.op2 .fdiv a b)) := sx_bin op_fdiv ok_fdiv ha hb
theorem sx_mod (ha : PE X ea (SE B a)) (hb : PE X eb (SE B b)) : PE X (.BinOp ea .Mod eb pos) (SE B (.op2 .mod a b)) := sx_bin op_mod ok_mod ha hb
theorem sx_pow (ha : PE X ea (SE B a)) (hb : PE X eb (SE B b)) : PE X (.BinOp ea .Pow eb pos) (SE B (.op2 .pow a b)) := sx_bin op_pow ok_pow ha hb
theorem sx_neg (ha : PE X ea (SE B a)) : PE X (.UnaryOp .USub ea pos) (SE B (.op1 .neg a)) := sx_un un_neg ok_neg ha
end
end BS

set_option Elab.async false
set_option linter.all false
set_option maxRecDepth 100000
set_option maxHeartbeats 2000000
namespace BS
open PySem PySem.Spec PyProof.Rows L2

section
variable {K : PySem.W.Frag} {FA : Nat → Addr → Prop} {Z Z' H H' : Hp}
theorem eqV_deq {a b : D} {v u : V} {w w' F F'} (r1 : R K FA Z H w a v F) (r2 : R K FA Z H w' b u F') (h1 : scalar a = true) (h2 : scalar b = true) : eqV v u = deq a b := by
  cases a with
  | non =>
    cases b with
    | non => rw [r1.1, r2.1]; rfl
    | bl y => rw [r1.1, r2.1]; rfl
    | int y => rw [r1.1, r2.1]; rfl
    | str y => rw [r1.1, r2.1.1]; rfl
    | _ => simp at h2
  | bl x =>
    cases b with
    | non => rw [r1.1, r2.1]; rfl
    | bl y => rw [r1.1, r2.1]; rfl
    | int y => rw [r1.1, r2.1]; rfl
    | str y => rw [r1.1, r2.1.1]; rfl
    | _ => simp at h2
  | int x =>
    cases b with
    | non => rw [r1.1, r2.1]; rfl
    | bl y => rw [r1.1, r2.1]; rfl
    | int y => rw [r1.1, r2.1]; rfl
    | str y => rw [r1.1, r2.1.1]; rfl
    | _ => simp at h2
  | str x =>
    cases b with
    | non => rw [r1.1.1, r2.1]; rfl
    | bl y => rw [r1.1.1, r2.1]; rfl
    | int y => rw [r1.1.1, r2.1]; rfl
    | str y => rw [r1.1.1, r2.1.1]; simp only [eqV, deq, Bool.beq_eq_decide_eq]
    | _ => simp at h2
  | _ => simp at h1
theorem flat_of {a : D} {v : V} {w F} (r : R K FA Z H w a v F) (h : scalar a = true) : flatV v = true := by
  cases a with
  | non => rw [r.1]; rfl
  | bl _ => rw [r.1]; rfl
  | int _ => rw [r.1]; rfl
  | str _ => rw [r.1.1]; rfl
  | _ => simp at h
theorem inV_deq {a : D} {v : V} {w F} (r : R K FA Z H w a v F) (h : scalar a = true) : ∀ {xs : List D} {w' vs F'}, Rs K FA Z H w' xs vs F' → scalars xs = true → vs.all flatV = true ∧ inV v vs = xs.any fun y => deq y a
  | [], _, _, _, hr, _ => by rw [hr.1]; exact ⟨rfl, rfl⟩
  | x :: xs, _, _, _, ⟨v0, us, A, C, e0, h1, h2, e⟩, hs => by
    simp only [scalars, Bool.and_eq_true] at hs
    obtain ⟨a1, a2⟩ := inV_deq r h h2 hs.2
    rw [e0]
    refine ⟨by simp [flat_of h1 hs.1, a1], ?_⟩
    show (eqV v0 v || inV v us) = _
    rw [a2, eqV_deq h1 r hs.1 h, List.any_cons]
theorem dhas_get {kvs : List (D × D)} {k : D} : dhas kvs k = (dget kvs k).isSome := by
  induction kvs with
  | nil => rfl
  | cons p r ih =>
    obtain ⟨a, v⟩ := p
    have e1 : dhas ((a, v) :: r) k = (keq a k || dhas r k) := rfl
    have e2 : dget ((a, v) :: r) k = if keq a k then some v else dget r k := rfl
    rw [e1, e2]
    cases q : keq a k with
    | true => rfl
    | false => simpa using ih
end
section
variable {X : Cx} {B : Bk} {pos p : Pos} {ea eb : Expr} {a b : Ex}
theorem any_eqv {a : D} {n m : Nat} (ha : shp n a = true) : ∀ xs : List D, shps m xs = true → ((toPDs xs).any fun z => PyData.eqv z (toPD a)) = xs.any fun y => deq y a
  | [], _ => rfl
  | x :: xs, h => by
    simp only [shps, Bool.and_eq_true] at h
    simp only [toPDs, List.any_cons, deq_eqv x a h.1 ha, any_eqv ha xs h.2]
theorem str_one {s : Str} {c : Nat} (h : s.cps.toList = [c]) : s = ⟨#[c]⟩ := by
  obtain ⟨l⟩ := s
  have : l = #[c] := by
    apply Array.toList_inj.mp
    simpa using h
  rw [this]
def rInB (K : PySem.W.Frag) : R2 := fun x y H Q => rIn K false x y H Q ∨ ∃ (c : Nat) (z : Str), x = .str ⟨#[c]⟩ ∧ y = .str z ∧ Q (.bl (decide (c ∈ z.cps.toList))) H
def rNinB (K : PySem.W.Frag) : R2 := fun x y H Q => rIn K true x y H Q ∨ ∃ (c : Nat) (z : Str), x = .str ⟨#[c]⟩ ∧ y = .str z ∧ Q (.bl (!decide (c ∈ z.cps.toList))) H
def rDin (neg : Bool) : R2 := fun y x H Q => ∃ a o, x = .ref a ∧ DGet H a y o ∧ Q (.bl (if neg then !o.isSome else o.isSome)) H

def isDic' : D → Bool
  | .dic _ _ => true
  | _ => false
theorem ok_in_a {a : D} {xs : List D} {v u : V} {w w' F F' Z H Q} (hs : Sub Z H) (r1 : R B.K B.FA Z H w a v F) (r2 : R B.K B.FA Z H w' (.lst xs) u F') (hc : scalar a = true ∧ scalars xs = true) (k : Q (.bl (xs.any fun y => deq y a)) H) : rInB B.K v u H Q ∨ rDin false v u H Q ∨ rInD B.K v u H Q := by
  obtain ⟨q, vs, G, e, hq, hr, ef⟩ := r2
  obtain ⟨x1, x2⟩ := inV_deq r1 hc.1 hr hc.2
  refine .inl (.inl ⟨q, vs, e, .inl (hq.sub hs), flat_of r1 hc.1, x1, ?_⟩)
  simp only [Bool.false_eq_true, if_false, x2]
  exact k
theorem ok_in : Ok2 B (app2 .In) (fun x y H Q => rInB B.K x y H Q ∨ rDin false x y H Q ∨ rInD B.K x y H Q) := by
  intro a b d' v u w w' F F' Z H Q hs r1 r2 he k
  cases b with
  | lst xs =>
    simp only [app2] at he
    split at he
    · rename_i hc
      rw [Bool.or_eq_true] at hc
      simp only [Bool.and_eq_true] at hc
      cases he
      rcases hc with hc | hc
      · exact ok_in_a hs r1 r2 hc (k _ fun w => ⟨rfl, rfl⟩)
      refine .inr (.inr ⟨toPD a, toPDs xs, R_Dp hs a hc.1 r1, R_Dp (n := 30) hs (.lst xs) hc.2 r2, ?_, ?_, ?_⟩)
      · obtain ⟨x, y⟩ := R_lay a hc.1 r1
        unfold SeqAt.shaped
        rw [x, decide_eq_true (by omega)]
        rfl
      · obtain ⟨x, y⟩ := R_lay (n := 30) (.lst xs) hc.2 r2
        have x' : PyData.canLay0 (.list (toPDs xs)) = true := x
        have y' : PyData.depth (.list (toPDs xs)) ≤ 30 := y
        unfold SeqAt.shaped
        rw [x', decide_eq_true (by omega)]
        rfl
      · rw [any_eqv hc.1 xs hc.2]
        exact k _ fun w => ⟨rfl, rfl⟩
    · cases he
  | tup xs =>
    simp only [app2] at he
    split at he
    · rename_i hc
      simp only [Bool.and_eq_true] at hc
      cases he
      obtain ⟨q, vs, e, hq, hr⟩ := r2
      obtain ⟨x1, x2⟩ := inV_deq r1 hc.1 hr hc.2
      refine .inl (.inl ⟨q, vs, e, .inr (SqT.of (tup_sub hs hq)), flat_of r1 hc.1, x1, ?_⟩)
      simp only [Bool.false_eq_true, if_false, x2]
      exact k _ fun w => ⟨rfl, rfl⟩
    · cases he
  | str z =>
    cases a with
    | str s =>
      simp only [app2] at he
      split at he
      · rename_i c hc
        cases he
        refine .inl (.inr ⟨c, z, ?_, r2.1.1, k _ fun w => ⟨rfl, rfl⟩⟩)
        rw [r1.1.1, str_one hc]
      · cases he
    | _ => simp [app2] at he
  | dic t kvs =>
    have hk : keyOk t a = true ∧ d' = .bl (dhas kvs a) := by
      cases hk : keyOk t a with
      | false => cases a <;> simp [app2, hk] at he
      | true => cases a <;> simp [app2, hk] at he <;> exact ⟨rfl, he.symm⟩
    obtain ⟨hk, rfl⟩ := hk
    obtain ⟨q, o, e, dg, g1, g2⟩ := R_dget hs r2 hk r1
    refine .inr (.inl ⟨q, o, e, dg, ?_⟩)
    simp only [Bool.false_eq_true, if_false]
    refine k _ fun w => ⟨?_, rfl⟩
    rw [dhas_get]
    cases e : dget kvs a with
    | none => rw [g1 e]; rfl
    | some d =>
      obtain ⟨v', _, e2, _⟩ := g2 d e
      rw [e2]; rfl
  | _ => cases a <;> simp [app2] at he
theorem ok_nin_a {a : D} {xs : List D} {v u : V} {w w' F F' Z H Q} (hs : Sub Z H) (r1 : R B.K B.FA Z H w a v F) (r2 : R B.K B.FA Z H w' (.lst xs) u F') (hc : scalar a = true ∧ scalars xs = true) (k : Q (.bl (!xs.any fun y => deq y a)) H) : rNinB B.K v u H Q ∨ rDin true v u H Q ∨ rNotInD B.K v u H Q := by
  obtain ⟨q, vs, G, e, hq, hr, ef⟩ := r2
  obtain ⟨x1, x2⟩ := inV_deq r1 hc.1 hr hc.2
  refine .inl (.inl ⟨q, vs, e, .inl (hq.sub hs), flat_of r1 hc.1, x1, ?_⟩)
  simp only [if_true, x2]
  exact k
theorem ok_nin : Ok2 B (app2 .NotIn) (fun x y H Q => rNinB B.K x y H Q ∨ rDin true x y H Q ∨ rNotInD B.K x y H Q) := by
  intro a b d' v u w w' F F' Z H Q hs r1 r2 he k
  cases b with
  | lst xs =>
    simp only [app2] at he
    split at he
    · rename_i hc
      rw [Bool.or_eq_true] at hc
      simp only [Bool.and_eq_true] at hc
      cases he
      rcases hc with hc | hc
      · exact ok_nin_a hs r1 r2 hc (k _ fun w => ⟨rfl, rfl⟩)
      refine .inr (.inr ⟨toPD a, toPDs xs, R_Dp hs a hc.1 r1, R_Dp (n := 30) hs (.lst xs) hc.2 r2, ?_, ?_, ?_⟩)
      · obtain ⟨x, y⟩ := R_lay a hc.1 r1
        unfold SeqAt.shaped
        rw [x, decide_eq_true (by omega)]
        rfl
      · obtain ⟨x, y⟩ := R_lay (n := 30) (.lst xs) hc.2 r2
        have x' : PyData.canLay0 (.list (toPDs xs)) = true := x
        have y' : PyData.depth (.list (toPDs xs)) ≤ 30 := y
        unfold SeqAt.shaped
        rw [x', decide_eq_true (by omega)]
        rfl
      · rw [any_eqv hc.1 xs hc.2]
        exact k _ fun w => ⟨rfl, rfl⟩
    · cases he
  | tup xs =>
    simp only [app2] at he
    split at he
    · rename_i hc
      simp only [Bool.and_eq_true] at hc
      cases he
      obtain ⟨q, vs, e, hq, hr⟩ := r2
      obtain ⟨x1, x2⟩ := inV_deq r1 hc.1 hr hc.2
      refine .inl (.inl ⟨q, vs, e, .inr (SqT.of (tup_sub hs hq)), flat_of r1 hc.1, x1, ?_⟩)
      simp only [if_true, x2]
      exact k _ fun w => ⟨rfl, rfl⟩
    · cases he
  | str z =>
    cases a with
    | str s =>
      simp only [app2] at he
      split at he
      · rename_i c hc
        cases he
        refine .inl (.inr ⟨c, z, ?_, r2.1.1, k _ fun w => ⟨rfl, rfl⟩⟩)
        rw [r1.1.1, str_one hc]
      · cases he
    | _ => simp [app2] at he
  | dic t kvs =>
    have hk : keyOk t a = true ∧ d' = .bl (!dhas kvs a) := by
      cases hk : keyOk t a with
      | false => cases a <;> simp [app2, hk] at he
      | true => cases a <;> simp [app2, hk] at he <;> exact ⟨rfl, he.symm⟩
    obtain ⟨hk, rfl⟩ := hk
    obtain ⟨q, o, e, dg, g1, g2⟩ := R_dget hs r2 hk r1
    refine .inr (.inl ⟨q, o, e, dg, ?_⟩)
    simp only [if_true]
    refine k _ fun w => ⟨?_, rfl⟩
    rw [dhas_get]
    cases e : dget kvs a with
    | none => rw [g1 e]; rfl
    | some d =>
      obtain ⟨v', _, e2, _⟩ := g2 d e
      rw [e2]; rfl
  | _ => cases a <;> simp [app2] at he
theorem op_in_B (hK : X.K = B.K) : OpR X (compareOp .In) (rInB B.K) := hK ▸ op_in_seq.or op_in_sign
theorem op_nin_B (hK : X.K = B.K) : OpR X (compareOp .NotIn) (rNinB B.K) := hK ▸ op_notIn_seq.or op_notIn_sign
theorem opr_din (hu : X.A.units + 1 < cLine) : OpR X (compareOp .In) (rDin false) := by
  intro pins s σ H x y v u Q I rx ry h
  obtain ⟨a, o, rfl, dg, q⟩ := h
  obtain rfl : u = Value.ref a := ry
  exact d_in hu I dg rx fun s3 I3 => ⟨.bl o.isSome, H, I3, rfl, q⟩
theorem opr_dnin (hu : X.A.units + 1 < cLine) : OpR X (compareOp .NotIn) (rDin true) := by
  intro pins s σ H x y v u Q I rx ry h
  obtain ⟨a, o, rfl, dg, q⟩ := h
  obtain rfl : u = Value.ref a := ry
  exact d_notIn hu I dg rx fun s3 I3 => ⟨.bl (!o.isSome), H, I3, rfl, q⟩
theorem opr_in (hu : X.A.units + 65 < cLine) (hK : X.K = B.K) : OpR X (compareOp .In) (fun x y H Q => rInB B.K x y H Q ∨ rDin false x y H Q ∨ rInD B.K x y H Q) := (op_in_B hK).or ((opr_din (by omega)).or (hK ▸ op_inD hu))
theorem opr_nin (hu : X.A.units + 65 < cLine) (hK : X.K = B.K) : OpR X (compareOp .NotIn) (fun x y H Q => rNinB B.K x y H Q ∨ rDin true x y H Q ∨ rNotInD B.K x y H Q) := (op_nin_B hK).or ((opr_dnin (by omega)).or (hK ▸ op_notInD hu))
theorem opr_eq (hu : X.A.units + 64 < cLine) (hK : X.K = B.K) : OpR X (compareOp .Eq) (rEqD B.K) := hK ▸ op_eqD hu
theorem opr_ne (hu : X.A.units + 64 < cLine) (hK : X.K = B.K) : OpR X (compareOp .NotEq) (rNeD B.K) := hK ▸ op_neD hu

theorem sx_eq (hu : X.A.units + 64 < cLine) (ha : PE X ea (SE B a)) (hb : PE X eb (SE B b)) (hK : X.K = B.K := by rfl) : PE X (.Compare ea [.Eq] [eb] pos) (SE B (.op2 .eq a b)) := sx_cmp (opr_eq hu hK) ok_eq ha hb (nomark _)
theorem sp_eq (hu : X.A.units + 64 < cLine) (ha : PE X ea (SE B a)) (hb : PE X eb (SE B b)) (hK : X.K = B.K := by rfl) : PT X (.Compare ea [.Eq] [eb] pos) (ST B (.op2 .eq a b)) := sp_cmp (opr_eq hu hK) ok_eq ha hb (nomark _)
theorem sp_ne (hu : X.A.units + 64 < cLine) (ha : PE X ea (SE B a)) (hb : PE X eb (SE B b)) (hK : X.K = B.K := by rfl) : PT X (.Compare ea [.NotEq] [eb] pos) (ST B (.op2 .ne a b)) := sp_cmp (opr_ne hu hK) ok_ne ha hb (nomark _)
theorem sp_lt (ha : PE X ea (SE B a)) (hb : PE X eb (SE B b)) : PT X (.Compare ea [.Lt] [eb] pos) (ST B (.op2 .lt a b)) := sp_cmp op_lt ok_lt ha hb (nomark _)
theorem sp_gt (ha : PE X ea (SE B a)) (hb : PE X eb (SE B b)) : PT X (.Compare ea [.Gt] [eb] pos) (ST B (.op2 .gt a b)) := sp_cmp op_gt ok_gt ha hb (nomark _)
theorem sp_in (hu : X.A.units + 65 < cLine) (ha : PE X ea (SE B a)) (hb : PE X eb (SE B b)) (hm : behindInMarks .In eb = false := by rfl) (hK : X.K = B.K := by rfl) : PT X (.Compare ea [.In] [eb] pos) (ST B (.op2 .In a b)) := sp_cmp (opr_in hu hK) ok_in ha hb hm
theorem sp_nin (hu : X.A.units + 65 < cLine) (ha : PE X ea (SE B a)) (hb : PE X eb (SE B b)) (hm : behindInMarks .NotIn eb = false := by rfl) (hK : X.K = B.K := by rfl) : PT X (.Compare ea [.NotIn] [eb] pos) (ST B (.op2 .NotIn a b)) := sp_cmp (opr_nin hu hK) ok_nin ha hb hm

theorem isNon_eq {K : PySem.W.Frag} {FA : Nat → Addr → Prop} {Z H : Hp} {d : D} {w v F} (r : R K FA Z H w d v F) : decide (v = .non) = isNon d := by
  cases d with
  | non => rw [r.1]; rfl
  | bl _ => rw [r.1]; rfl
  | int _ => rw [r.1]; rfl
  | str _ => rw [r.1.1]; rfl
  | fn _ => obtain ⟨⟨a, e, _⟩, _⟩ := r; rw [e]; rfl
  | scr _ => obtain ⟨⟨a, e, _⟩, _⟩ := r; rw [e]; rfl
  | tup _ => obtain ⟨a, _, e, _⟩ := r; rw [e]; rfl
  | lst _ => obtain ⟨a, _, _, e, _⟩ := r; rw [e]; rfl
  | dic _ _ => obtain ⟨a, _, e, _⟩ := r; rw [e]; rfl
theorem ok_isN : Ok1 B (app1 .isN) (fun x H Q => Q (.bl (decide (x = .non))) H) := by
  intro d d' v w F Z H Q hs r he k
  have e : d' = .bl (isNon d) := by cases d <;> simp [app1] at he <;> exact he.symm
  subst e
  rw [isNon_eq r]
  exact k _ fun w => ⟨rfl, rfl⟩
theorem ok_isNN : Ok1 B (app1 .isNN) (fun x H Q => Q (.bl (!decide (x = .non))) H) := by
  intro d d' v w F Z H Q hs r he k
  have e : d' = .bl (!isNon d) := by cases d <;> simp [app1] at he <;> exact he.symm
  subst e
  rw [isNon_eq r]
  exact k _ fun w => ⟨rfl, rfl⟩
variable {j : Nat} {p' : Pos}
theorem sp_isN {j} (ha : PE X ea (SE B a)) : PT X (.Compare ea [.Is] [.Constant .none j p'] pos) (ST B (.op1 .isN a)) := (pt_cmp (pc_isN ha) rfl).imp fun _ _ _ h => st1 ok_isN h
theorem sp_isNN {j} (ha : PE X ea (SE B a)) : PT X (.Compare ea [.IsNot] [.Constant .none j p'] pos) (ST B (.op1 .isNN a)) := (pt_cmp (pc_notN ha) rfl).imp fun _ _ _ h => st1 ok_isNN h
end
end BS

set_option Elab.async false
set_option linter.all false
set_option maxRecDepth 100000
set_option maxHeartbeats 2000000
namespace BS
open PySem PySem.Spec PyProof.Rows L2
section
variable {X : Cx} {B : Bk} {pos p : Pos} {ea eb : Expr} {a b : Ex}

theorem cb1 {r : List V → Hp → VK → Prop} {o : Op1} (hr : Ok1 B (app1 o) (fun v H Q => r [v] H Q)) {σ H Q} (h : SE B (.op1 o a) σ H Q) : tCB r (tCons (SE B a) tNil) σ H Q := se1 hr h
theorem cb2 {r : List V → Hp → VK → Prop} {o : Op2} (hr : Ok2 B (app2 o) (fun v u H Q => r [v, u] H Q)) {σ H Q} (h : SE B (.op2 o a b) σ H Q) : tCB r (tCons (SE B a) (tCons (SE B b) tNil)) σ H Q := se2 hr h
theorem CallR.or {f : Value} {r r' : List V → Hp → VK → Prop} (h : CallR X f r) (h' : CallR X f r') : CallR X f (fun xs H Q => r xs H Q ∨ r' xs H Q) :=
  fun pins s σ H xs us Q I rx w => w.elim (h pins s σ H xs us Q I rx) (h' pins s σ H xs us Q I rx)
theorem call_lenR : CallR X (.builtin "len") (fun xs H Q => ∃ a kvs, xs = [V.ref a] ∧ Rd H a (.dK kvs) ∧ Q (.int kvs.length) H) := by
  intro pins s σ H xs us Q I r h
  obtain ⟨a, kvs, rfl, ha, q⟩ := h
  obtain ⟨u, rfl, ru⟩ := vals1 r
  cases ru
  exact d_len I ha fun t s' I' => ⟨.int kvs.length, H, I', ⟨t, rfl⟩, q⟩
theorem RK_len {K : PySem.W.Frag} {FA : Nat → Addr → Prop} {Z H : Hp} : ∀ {l : List (D × D)} {w v F}, RK K FA Z H w l v F → v.length = l.length
  | [], _, _, _, h => by rw [h.1]; rfl
  | (_, d) :: l, _, _, _, ⟨_, _, _, _, _, e0, _, h1, h2, e⟩ => by rw [e0]; simp [RK_len h2]
theorem ok_len : Ok1 B (app1 .len) (fun v H Q => (∃ x n, [v] = [x] ∧ LenV B.K x H n ∧ Q (.int n) H) ∨ ∃ a kvs, [v] = [V.ref a] ∧ Rd H a (.dK kvs) ∧ Q (.int kvs.length) H) := by
  intro d d' v w F Z H Q hs r he k
  simp only [app1, Option.map_eq_some_iff] at he
  obtain ⟨n, he, rfl⟩ := he
  cases d with
  | str s =>
    simp only [lenD, Option.some.injEq] at he
    subst he
    exact .inl ⟨v, s.length, rfl, by rw [r.1.1]; exact ⟨r.1.2.1, rfl⟩, k _ fun w => ⟨rfl, rfl⟩⟩
  | lst xs =>
    simp only [lenD, Option.some.injEq] at he
    subst he
    obtain ⟨q, vs, G, e, hq, hr, ef⟩ := r
    exact .inl ⟨v, xs.length, rfl, by rw [e]; exact .inl ⟨vs, hq.sub hs, (Rs_len hr).symm⟩, k _ fun w => ⟨rfl, rfl⟩⟩
  | tup xs =>
    simp only [lenD, Option.some.injEq] at he
    subst he
    obtain ⟨q, vs, e, hq, hr⟩ := r
    exact .inl ⟨v, xs.length, rfl, by rw [e]; exact .inr ⟨vs, SqT.of (tup_sub hs hq), (Rs_len hr).symm⟩, k _ fun w => ⟨rfl, rfl⟩⟩
  | scr xs =>
    simp only [lenD, Option.some.injEq] at he
    subst he
    obtain ⟨⟨q, e, hq⟩, ef⟩ := r
    exact .inl ⟨v, xs.length, rfl, by rw [e]; exact .inl ⟨_, SqL.sub hs hq, by simp⟩, k _ fun w => ⟨rfl, rfl⟩⟩
  | dic t kvs =>
    cases t with
    | false =>
      simp only [lenD, Option.some.injEq] at he
      subst he
      obtain ⟨q, G, e, hq, ef⟩ := r
      rcases hq with ⟨_, kv, c, hn, hr⟩ | ⟨z, _⟩
      · refine .inr ⟨q, kv, by rw [e], c.sub hs trivial, ?_⟩
        rw [RK_len hr]
        exact k _ fun w => ⟨rfl, rfl⟩
      · cases z
    | true => simp [lenD] at he
  | _ => simp [lenD] at he
theorem sx_len (hg : Gl X "len") (hm : X.mg "len" = none) (ha : PE X ea (SE B a)) (hK : X.K = B.K := by rfl) (he : starEach [ea] X.env = [(false, eval ea X.env)] := by rfl) : PE X (.Call (.Name "len" p) [ea] [] pos) (SE B (.op1 .len a)) :=
  (pe_callB (CallR.or (hK ▸ call_len) call_lenR) hg hm PySem.boot_len (pa_cons ha pa_nil he) (by decide) (by decide) he).imp fun _ _ _ h => cb1 ok_len h
theorem ok_int : Ok1 B (app1 .int) (fun v H Q => ((∃ i, [v] = [.int i] ∧ Q (.int i) H) ∨ ∃ k, [v] = [.bl k] ∧ Q (.int (if k then 1 else 0)) H) ∨ ∃ a n, [v] = [.str a] ∧ PySem.intText? a = some n ∧ a.length ≤ 640 ∧ Q (.int n) H) := by
  intro d d' v w F Z H Q hs r he k
  cases d <;> simp [app1] at he
  · subst he
    exact .inl (.inr ⟨_, by rw [r.1], k _ fun w => ⟨rfl, rfl⟩⟩)
  · subst he
    exact .inl (.inl ⟨_, by rw [r.1], k _ fun w => ⟨rfl, rfl⟩⟩)
  · obtain ⟨hl, n, hn, rfl⟩ := he
    exact .inr ⟨_, n, by rw [r.1.1], hn, hl, k _ fun w => ⟨rfl, rfl⟩⟩
theorem boot_int' : bootBuiltins "int" = some (.type "int") := by decide +kernel
theorem boot_str' : bootBuiltins "str" = some (.type "str") := by decide +kernel
theorem boot_isinstance' : bootBuiltins "isinstance" = some (.builtin "isinstance") := by decide +kernel
theorem boot_max' : bootBuiltins "max" = some (.builtin "max") := by decide +kernel
theorem boot_min' : bootBuiltins "min" = some (.builtin "min") := by decide +kernel
theorem sx_int1 (hg : Gl X "int") (hm : X.mg "int" = none) (ha : PE X ea (SE B a)) (he : starEach [ea] X.env = [(false, eval ea X.env)] := by rfl) : PE X (.Call (.Name "int" p) [ea] [] pos) (SE B (.op1 .int a)) :=
  (pe_callTy (CallR.or call_int1 call_int_str) hg hm boot_int' (pa_cons ha pa_nil he) (by decide) (by decide) he).imp fun _ _ _ h => cb1 ok_int h
theorem strOk_repr (i : Int) : PyData.strOk (Str.ofString (toString i)) = true := strOk_iff.mpr fun c hc => Nat.lt_trans (PySem.W.KSb.asc_num i c hc) (by decide)
theorem ok_str : Ok1 B (app1 .str) (fun v H Q => ∃ i, [v] = [.int i] ∧ i.natAbs.log2 < 1920 ∧ Q (.str (toString i)) H) := by
  intro d d' v w F Z H Q hs r he k
  cases d with
  | int i =>
    simp only [app1] at he
    split at he
    · rename_i hl
      cases he
      exact ⟨i, by rw [r.1], hl, k _ fun w => ⟨⟨rfl, PySem.int_text_fits hl, strOk_repr i⟩, rfl⟩⟩
    · cases he
  | _ => simp [app1] at he
theorem sx_str1 (hg : Gl X "str") (hm : X.mg "str" = none) (ha : PE X ea (SE B a)) (he : starEach [ea] X.env = [(false, eval ea X.env)] := by rfl) : PE X (.Call (.Name "str" p) [ea] [] pos) (SE B (.op1 .str a)) :=
  (pe_callTy call_str_int hg hm boot_str' (pa_cons ha pa_nil he) (by decide) (by decide) he).imp fun _ _ _ h => cb1 ok_str h
theorem ok_max : Ok2 B (app2 .max) (fun v u H Q => ∃ i j, [v, u] = [.int i, .int j] ∧ Q (.int (if j > i then j else i)) H) := by
  intro a b d' v u w w' F F' Z H Q hs r1 r2 he k
  cases a <;> cases b <;> simp [app2] at he
  subst he
  exact ⟨_, _, by rw [r1.1, r2.1], k _ fun w => ⟨rfl, rfl⟩⟩
theorem ok_min : Ok2 B (app2 .min) (fun v u H Q => ∃ i j, [v, u] = [.int i, .int j] ∧ Q (.int (if j < i then j else i)) H) := by
  intro a b d' v u w w' F F' Z H Q hs r1 r2 he k
  cases a <;> cases b <;> simp [app2] at he
  subst he
  exact ⟨_, _, by rw [r1.1, r2.1], k _ fun w => ⟨rfl, rfl⟩⟩
theorem sx_max2 (hg : Gl X "max") (hm : X.mg "max" = none) (ha : PE X ea (SE B a)) (hb : PE X eb (SE B b)) (hc : X.calm = true := by rfl) (he : starEach [ea, eb] X.env = (false, eval ea X.env) :: starEach [eb] X.env := by rfl) (he2 : starEach [eb] X.env = [(false, eval eb X.env)] := by rfl)
    (hpl : (backTo pos (starEach [eb] X.env)).any (·.1) = false := by rfl) : PE X (.Call (.Name "max" p) [ea, eb] [] pos) (SE B (.op2 .max a b)) :=
  (pe_callB (call_max2 hc) hg hm boot_max' (pa_cons ha (pa_cons hb pa_nil he2) he) (by decide) (by decide) he hpl).imp fun _ _ _ h => cb2 ok_max h
theorem sx_min2 (hg : Gl X "min") (hm : X.mg "min" = none) (ha : PE X ea (SE B a)) (hb : PE X eb (SE B b)) (hc : X.calm = true := by rfl) (he : starEach [ea, eb] X.env = (false, eval ea X.env) :: starEach [eb] X.env := by rfl) (he2 : starEach [eb] X.env = [(false, eval eb X.env)] := by rfl)
    (hpl : (backTo pos (starEach [eb] X.env)).any (·.1) = false := by rfl) : PE X (.Call (.Name "min" p) [ea, eb] [] pos) (SE B (.op2 .min a b)) :=
  (pe_callB (call_min2 hc) hg hm boot_min' (pa_cons ha (pa_cons hb pa_nil he2) he) (by decide) (by decide) he hpl).imp fun _ _ _ h => cb2 ok_min h

def tyN : Ty → String
  | .int => "int" | .str => "str" | .bool => "bool" | .list => "list" | .tuple => "tuple" | .dict => "dict"
def tyD : D → String
  | .non => "NoneType" | .bl _ => "bool" | .int _ => "int" | .str _ => "str" | .lst _ => "list" | .tup _ => "tuple" | .dic _ _ => "dict" | _ => ""
theorem kit_all : ∀ t : Ty, kitB "NoneType" (tyN t) = some (tyOf t .non) ∧ kitB "bool" (tyN t) = some (tyOf t (.bl true)) ∧ kitB "int" (tyN t) = some (tyOf t (.int 0)) ∧ kitB "str" (tyN t) = some (tyOf t (.str Str.empty)) ∧
    kitB "list" (tyN t) = some (tyOf t (.lst [])) ∧ kitB "tuple" (tyN t) = some (tyOf t (.tup [])) ∧ kitB "dict" (tyN t) = some (tyOf t (.dic false [])) := by
  intro t
  cases t <;> decide +kernel
theorem ok_isi (t : Ty) : Ok1 B (app1 (.isi t)) (fun v H Q => rIsi B.K [v, .ty (tyN t)] H Q) := by
  intro d d' v w F Z H Q hs r he k
  obtain ⟨k1, k2, k3, k4, k5, k6, k7⟩ := kit_all t
  cases d with
  | non =>
    simp only [app1, Option.some.injEq] at he
    subst he
    exact ⟨v, _, _, _, _, rfl, .ty _, by rw [r.1]; exact .base .non, kit_ty k1, k _ fun w => ⟨rfl, rfl⟩⟩
  | bl x =>
    simp only [app1, Option.some.injEq] at he
    subst he
    refine ⟨v, _, _, _, _, rfl, .ty _, by rw [r.1]; exact .base (.bl x), kit_ty k2, ?_⟩
    have e : tyOf t (.bl x) = tyOf t (.bl true) := by cases t <;> rfl
    rw [← e]
    exact k _ fun w => ⟨rfl, rfl⟩
  | int x =>
    simp only [app1, Option.some.injEq] at he
    subst he
    refine ⟨v, _, _, _, _, rfl, .ty _, by rw [r.1]; exact .base (.int x), kit_ty k3, ?_⟩
    have e : tyOf t (.int x) = tyOf t (.int 0) := by cases t <;> rfl
    rw [← e]
    exact k _ fun w => ⟨rfl, rfl⟩
  | str x =>
    simp only [app1, Option.some.injEq] at he
    subst he
    refine ⟨v, _, _, _, _, rfl, .ty _, by rw [r.1.1]; exact .base (.str x), kit_ty k4, ?_⟩
    have e : tyOf t (.str x) = tyOf t (.str Str.empty) := by cases t <;> rfl
    rw [← e]
    exact k _ fun w => ⟨rfl, rfl⟩
  | lst x =>
    simp only [app1, Option.some.injEq] at he
    subst he
    obtain ⟨q, vs, G, e, hq, hr, ef⟩ := r
    refine ⟨v, _, _, _, _, rfl, .ty _, by rw [e]; exact .base (.lst (hq.sub' hs)), kit_ty k5, ?_⟩
    have e : tyOf t (.lst x) = tyOf t (.lst []) := by cases t <;> rfl
    rw [← e]
    exact k _ fun w => ⟨rfl, rfl⟩
  | tup x =>
    simp only [app1, Option.some.injEq] at he
    subst he
    obtain ⟨q, vs, e, hq, hr⟩ := r
    refine ⟨v, _, _, _, _, rfl, .ty _, by rw [e]; exact .base (.tup (tup_sub hs hq)), kit_ty k6, ?_⟩
    have e : tyOf t (.tup x) = tyOf t (.tup []) := by cases t <;> rfl
    rw [← e]
    exact k _ fun w => ⟨rfl, rfl⟩
  | dic tt x =>
    cases tt with
    | true => simp [app1] at he
    | false =>
      simp only [app1, Option.some.injEq] at he
      subst he
      obtain ⟨q, G, e, hq, ef⟩ := r
      rcases hq with ⟨_, kv, c, hn, hr⟩ | ⟨z, _⟩
      · refine ⟨v, _, _, _, _, rfl, .ty _, ?_, kit_ty k7, ?_⟩
        · rw [e]
          rcases CAt.sub hs (o := .dK kv) trivial c with y | ⟨o, y⟩
          · exact .base (.dK y)
          · exact .fDict y
        · have e : tyOf t (.dic false x) = tyOf t (.dic false []) := by cases t <;> rfl
          rw [← e]
          exact k _ fun w => ⟨rfl, rfl⟩
      · cases z
  | _ => simp [app1] at he
theorem sx_isi (t : Ty) {x : Str} {p2 : Pos} (hx : bootBuiltins x = some (.type (tyN t))) (hg : Gl X "isinstance") (hm : X.mg "isinstance" = none) (hgx : Gl X x) (hmx : X.mg x = none) (ha : PE X ea (SE B a)) (hK : X.K = B.K := by rfl)
    (hn : x ≠ "__name__" := by decide) (hd : (x == ("__debug__" : Str)) = false := by decide)
    (he : starEach [ea, .Name x p2] X.env = (false, eval ea X.env) :: starEach [.Name x p2] X.env := by rfl) (he2 : starEach [.Name x p2] X.env = [(false, eval (.Name x p2) X.env)] := by rfl) (hpl : (backTo pos (starEach [.Name x p2] X.env)).any (·.1) = false := by rfl) :
    PE X (.Call (.Name "isinstance" p) [ea, .Name x p2] [] pos) (SE B (.op1 (.isi t) a)) :=
  (pe_callB (show CallR X (.builtin "isinstance") (rIsi B.K) from hK ▸ call_isi) hg hm boot_isinstance' (pa_cons ha (pa_cons (pe_bltn (v := .ty (tyN t)) hgx hmx hx rfl hn hd) pa_nil he2) he) (by decide) (by decide) he hpl).imp fun _ _ _ h => se1 (ok_isi t) h

def inGl (B : Bk) (a : Ex) (neg : Bool) (xs : List Str) : TE := fun σ H Q => SE B a σ H fun v H1 => ∃ s, v = .str s ∧ Q (.bl (if neg then !xs.contains s else xs.contains s)) H1
theorem ev_inG {Φ : Phi} {neg : Bool} {xs : List Str} {E E' : En} {x : Val} (h : ev Φ (.inG neg a xs) E = some (x, E')) : ∃ s w, ev Φ a E = some ((.str s, w), E') ∧ x = (.bl (if neg then !xs.contains s else xs.contains s), .deep) := by
  simp only [ev, Option.bind_eq_bind, Option.bind_eq_some_iff, Prod.exists] at h
  obtain ⟨y, w, E1, h1, h⟩ := h
  cases y with
  | str s =>
    simp only [Option.some.injEq, Prod.mk.injEq] at h
    obtain ⟨rfl, rfl⟩ := h
    exact ⟨s, w, h1, rfl⟩
  | _ => cases h
theorem inG_se {neg : Bool} {xs : List Str} {σ H Q} (h : SE B (.inG neg a xs) σ H Q) : inGl B a neg xs σ H Q := by
  obtain ⟨Z, E, Fs, x, E', st, he, k⟩ := h
  obtain ⟨s, w, h1, rfl⟩ := ev_inG he
  exact ⟨Z, E, Fs, _, E', st, h1, fun v H1 Z1 F1 Fs1 p => ⟨s, p.val.1.1, k _ H1 Z1 [] Fs1 (p.plain (d := .bl _) (u := .bl _) fun w => ⟨rfl, rfl⟩)⟩⟩
theorem inG_in {xs : List Str} {neg : Bool} {t : Addr} (ht : ∀ H, SqT B.K H t (xs.map V.str)) {σ H Q} (h : inGl B a neg xs σ H Q) : tOp (rIn B.K neg) (SE B a) (tC (.ref t)) σ H Q := by
  obtain ⟨Z, E, Fs, x, E', st, he, k⟩ := h
  refine ⟨Z, E, Fs, x, E', st, he, fun v H' Z' Fd Fs' p => ?_⟩
  obtain ⟨s, rfl, q⟩ := k v H' Z' Fd Fs' p
  refine ⟨t, xs.map V.str, rfl, .inr (ht _), rfl, ?_, ?_⟩
  · rw [List.all_map]
    exact List.all_eq_true.mpr fun _ _ => rfl
  · have e : inV (.str s) (xs.map V.str) = xs.contains s := by
      unfold inV
      rw [List.any_map, List.contains_eq_any_beq]
      congr 1
      funext y
      show (y == s) = (s == y)
      exact Bool.beq_comm
    rw [e]
    exact q
end
end BS

set_option Elab.async false
set_option linter.all false
set_option maxRecDepth 100000
set_option maxHeartbeats 2000000
namespace BS
open PySem PySem.Spec PyProof.Rows L2
section
variable {X : Cx} {B : Bk} {pos p : Pos} {ea eb ec : Expr} {a b c : Ex}

theorem sx_dct0 : PE X (.Dict [] [] pos) (SE B (.dct0 false)) := by
  refine pe_dnewK.imp fun σ H Q h => ?_
  obtain ⟨Z, E, Fs, x, E', st, he, k⟩ := h
  simp only [ev, Option.some.injEq, Prod.mk.injEq] at he
  obtain ⟨rfl, rfl⟩ := he
  intro p hp
  refine k _ _ Z [p] Fs ⟨st.laid hp, (Chg.refl _ _ _ _ _).laid hp, ⟨p, [], rfl, .inl ⟨rfl, [], upd_same, List.nodup_nil, rfl, rfl⟩, rfl⟩, fun _ => ⟨?_, fun a ha => ?_, fun a ha => ?_⟩, fun _ _ z => (by simp [pr] at z)⟩
  · exact List.nodup_cons.mpr ⟨fun m => st.re.there m hp, st.nd⟩
  · have e : a = p := by simpa using ha
    rw [e]
    exact st.sub.none hp
  · have e : a = p := by simpa using ha
    rw [e]
    exact .inl hp
theorem plain_k : ∀ {d : D}, plain d = true → kplain d = true
  | .non, _ => rfl
  | .bl _, _ => rfl
  | .int _, _ => rfl
  | .str _, _ => rfl
  | .fn _, _ => rfl
  | .scr _, _ => rfl
  | .tup _, h => h
  | .lst _, h => by simp at h
  | .dic _ _, h => by simp at h
def kpr (e : Ex) (x : Val) : Option (Nat × Bool) := if kplain x.1 then pr e else none
theorem Pe.kesc {K : PySem.W.Frag} {FA : Nat → Addr → Prop} {Z Z' H H' : Hp} {w : List Nat} {e : Ex} {E E1 : En} {Fs Fs1 : List (List Addr)} {σ : Sl} {x : Val} {v : V} {Fd : List Addr} (p : Pe K FA w (pr e) Z H E Fs σ x E1 v Z' H' Fd Fs1) :
    ∃ Z'' Fd'' Fs'', Pe K FA ((if isPl e then [root e] else []) ++ w) (kpr e x) Z H E Fs σ (BS.kesc e x E1).1 (BS.kesc e x E1).2 v Z'' H' Fd'' Fs'' := by
  cases hp : isPl e with
  | false =>
    have ep : pr e = none := by simp [pr, hp]
    refine ⟨Z', Fd, Fs1, ?_⟩
    have ek : BS.kesc e x E1 = (x, E1) := by simp [BS.kesc, hp]
    have ekp : kpr e x = none := by unfold kpr; rw [ep]; split <;> rfl
    rw [ek, ekp]
    rw [ep] at p
    exact p
  | true =>
    cases hk : kplain x.1 with
    | true =>
      refine ⟨Z', Fd, Fs1, ?_⟩
      have ek : BS.kesc e x E1 = (x, E1) := by simp [BS.kesc, hp, hk]
      have ekp : kpr e x = pr e := by simp [kpr, hk]
      rw [ek, ekp]
      exact p.mono fun i hi => List.mem_append_right _ hi
    | false =>
      have hx : BS.plain x.1 = false := by
        cases q : BS.plain x.1 with
        | false => rfl
        | true => rw [plain_k q] at hk; cases hk
      have ek : BS.kesc e x E1 = BS.esc e x E1 := by simp [BS.kesc, BS.esc, hp, hk, hx]
      have ekp : kpr e x = none := by simp [kpr, hk]
      rw [ek, ekp]
      have := p.esc
      rw [hp] at this
      exact this

theorem new_list {K : PySem.W.Frag} {FA : Nat → Addr → Prop} {Z Z' H H' : Hp} {w : List Nat} {E E1 : En} {Fs Fs1 : List (List Addr)} {σ : Sl} {ys : List D} {vs : List V} {G : List Addr} {u : Ow} {q : Addr}
    (st : Stt K FA Z' H' E1 σ Fs1) (ch : Chg w Z H E Fs Z' H' E1 Fs1) (r : Rs K FA Z' H' (kid u) ys vs G) (hq : H' q = none)
    (ex : plains ys = false → u = .deep → (G ++ Fs1.flatten).Nodup ∧ (∀ a ∈ G, Z' a = none) ∧ ∀ a ∈ G, H a = none ∨ WC Fs w a) :
    ∃ Fd, Pe K FA w none Z H E Fs σ (newLst ys u) E1 (.ref q) Z' (upd H' q (.lst vs)) Fd Fs1 := by
  have fresh : H q = none := ch.free hq
  have mk : ∀ (w' : Ow) (G' : List Addr), w' ≠ .sh → Rs K FA Z' H' (kid w') ys vs G' → (G' ++ Fs1.flatten).Nodup → (∀ a ∈ G', Z' a = none) → (∀ a ∈ G', H a = none ∨ WC Fs w a) →
      Pe K FA w none Z H E Fs σ (.lst ys, w') E1 (.ref q) Z' (upd H' q (.lst vs)) (q :: G') Fs1 := fun w' G' hw r' n1 n2 n3 => by
    have ne : ∀ a ∈ G', a ≠ q := fun a ha z => Rs_there ys r' ha (z ▸ hq)
    refine ⟨st.laid hq, ch.laid hq, ⟨q, vs, G', rfl, ?_, Rs_keep (Le.refl _) _ (fun a ha => upd_ne (ne a ha)) r', ?_⟩, fun _ => ⟨?_, fun a ha => ?_, fun a ha => ?_⟩, fun _ _ z => (by cases z)⟩
    · cases w'
      · exact absurd rfl hw
      · exact upd_same
      · exact upd_same
    · cases w'
      · exact absurd rfl hw
      · rfl
      · rfl
    · refine List.nodup_cons.mpr ⟨fun m => ?_, n1⟩
      rcases List.mem_append.mp m with m | m
      · exact ne q m rfl
      · exact st.re.there m hq
    · rcases List.mem_cons.mp ha with rfl | ha
      · exact st.sub.none hq
      · exact n2 a ha
    · rcases List.mem_cons.mp ha with rfl | ha
      · exact .inl fresh
      · exact n3 a ha
  unfold newLst
  cases hp : plains ys with
  | true =>
    obtain ⟨e0, kr⟩ := Rs_plain ys hp r
    simp only [if_true]
    exact ⟨[q], mk .deep [] (by decide) (kr _ _) (by simpa using st.nd) (fun _ m => (by cases m)) fun _ m => (by cases m)⟩
  | false =>
    simp only [Bool.false_eq_true, if_false]
    by_cases hu : u = .deep
    · rw [if_pos hu]
      subst hu
      obtain ⟨n1, n2, n3⟩ := ex hp rfl
      exact ⟨q :: G, mk .deep G (by decide) r n1 n2 n3⟩
    · rw [if_neg hu]
      have r' : Rs K FA Z' H' .sh ys vs G := by
        cases u
        · exact r
        · exact r
        · exact absurd rfl hu
      have e0 := Rs_sh ys r'
      subst e0
      exact ⟨[q], mk .top [] (by decide) r' (by simpa using st.nd) (fun _ m => (by cases m)) fun _ m => (by cases m)⟩

def SO (B : Bk) (e : Ex) : TO := fun σ H Q => ∃ Z E Fs x E' o, Stt B.K B.FA Z H E σ Fs ∧ ev B.Φ e E = some (x, E') ∧ sliceI e x.1 = some o ∧ ∀ H' Z' Fs', Stt B.K B.FA Z' H' E' σ Fs' → Chg (wr e) Z H E Fs Z' H' E' Fs' → Q o H'
theorem so_some (h : PE X ea (SE B a)) (hn : a ≠ .non := by intro h; cases h) : PO X (some ea) (SO B a) := by
  refine ⟨fun pins s σ H Q I hq => ?_⟩
  refine (po_some h).run pins s σ H Q I ?_
  obtain ⟨Z, E, Fs, ⟨x, w⟩, E', o, st, he, hs, k⟩ := hq
  refine ⟨Z, E, Fs, (x, w), E', st, he, fun v H' Z' Fd Fs' p => ?_⟩
  cases x with
  | int i =>
    have e : o = some i := by
      cases a <;> first | exact absurd rfl hn | (simp [sliceI] at hs; exact hs.symm)
    subst e
    exact ⟨i, p.val.1, k H' Z' Fs' p.st p.ch⟩
  | _ => cases a <;> first | exact absurd rfl hn | simp [sliceI] at hs
theorem so_none : PO X none (SO B .non) := by
  refine ⟨fun pins s σ H Q I hq => ?_⟩
  refine po_none.run pins s σ H Q I ?_
  obtain ⟨Z, E, Fs, x, E', o, st, he, hs, k⟩ := hq
  simp only [ev, Option.some.injEq, Prod.mk.injEq] at he
  obtain ⟨rfl, rfl⟩ := he
  simp only [sliceI, Option.some.injEq] at hs
  subst hs
  exact k H Z Fs st (Chg.refl _ _ _ _ _)
theorem ev_sl {Φ : Phi} {E E' : En} {x : Val} (h : ev Φ (.sl a b c) E = some (x, E')) : ∃ y E1 l E2 u E3 lo hi, ev Φ a E = some (y, E1) ∧ brw a (wr b ++ wr c) (kesc a y E1).1 = true ∧ ev Φ b (kesc a y E1).2 = some (l, E2) ∧ ev Φ c E2 = some (u, E3) ∧
    sliceI b l.1 = some lo ∧ sliceI c u.1 = some hi ∧ slD lo hi (kesc a y E1).1.1 (kesc a y E1).1.2 = some x ∧ E' = E3 := by
  simp only [ev, Option.bind_eq_bind, Option.bind_eq_some_iff, Prod.exists] at h
  obtain ⟨y, w, E1, h1, h⟩ := h
  by_cases hb : brw a (wr b ++ wr c) (kesc a (y, w) E1).1 = true
  · rw [if_pos hb] at h
    simp only [Option.bind_eq_some_iff, Prod.exists] at h
    obtain ⟨l, wl, E2, h2, u, wu, E3, h3, lo, h4, hi, h5, r, rw', h6, h7⟩ := h
    simp only [Option.some.injEq, Prod.mk.injEq] at h7
    obtain ⟨rfl, rfl⟩ := h7
    exact ⟨(y, w), E1, (l, wl), E2, (u, wu), E3, lo, hi, h1, hb, h2, h3, h4, h5, h6, rfl⟩
  · rw [if_neg hb] at h
    cases h
theorem strOk_cut {s : Str} {lo hi : Option Int} (h : PyData.strOk s = true) : PyData.strOk (cutS s lo hi) = true := by
  rw [strOk_iff] at h ⊢
  intro d hd
  refine h d ?_
  have : d ∈ ((s.cps.toList.drop (HT.sIx s.length 0 lo)).take (HT.sIx s.length s.length hi - HT.sIx s.length 0 lo)) := by simpa [cutS] using hd
  exact List.mem_of_mem_drop (List.mem_of_mem_take this)
theorem len_cut {s : Str} {lo hi : Option Int} : (cutS s lo hi).length ≤ s.length := by
  show ((s.cps.toList.drop _).take _).toArray.size ≤ s.cps.size
  simp
  omega
theorem sx_sl {p2 : Pos} {lo hi : Option Expr} (ha : PE X ea (SE B a)) (hl : PO X lo (SO B b)) (hh : PO X hi (SO B c)) (hK : X.K = B.K := by rfl) : PE X (.Subscript ea (.Slice lo hi none p2) pos) (SE B (.sl a b c)) := by
  refine (((pe_slice sl_list ha hl hh).or (pe_slice sl_str ha hl hh)).or (pe_slice sl_tup ha hl hh)).imp fun σ H Q h => ?_
  obtain ⟨Z, E, Fs, x, E', st, he, k⟩ := h
  obtain ⟨y, E1, l, E2, u, E3, lo, hi, h1, hb, h2, h3, h4, h5, h6, rfl⟩ := ev_sl he
  have key : ∀ {r : V → Option Int → Option Int → Hp → VK → Prop}, (∀ v H3 Z3 Fd Fs3, Stt B.K B.FA Z3 H3 E' σ Fs3 → Chg (wr (.sl a b c)) Z H E Fs Z3 H3 E' Fs3 → R B.K B.FA Z3 H3 (kesc a y E1).1.2 (kesc a y E1).1.1 v Fd →
      (plains (match (kesc a y E1).1.1 with | .lst ys => ys | .tup ys => ys | _ => []) = false → (Fd ++ Fs3.flatten).Nodup ∧ (∀ a ∈ Fd, Z3 a = none) ∧ ∀ a' ∈ Fd, H a' = none ∨ WC Fs (wr (.sl a b c)) a') → r v lo hi H3 Q) →
      tSl r (SE B a) (SO B b) (SO B c) σ H Q := fun {r} f => by
    refine ⟨Z, E, Fs, y, E1, st, h1, fun v H1 Z0 Fd0 Fs0 p0 => ?_⟩
    obtain ⟨Z1, Fd, Fs1, p⟩ := p0.kesc
    refine ⟨Z1, _, Fs1, l, E2, lo, p.st, h2, h4, fun H2 Z2 Fs2 s2 c2 => ?_⟩
    refine ⟨Z2, E2, Fs2, u, E', hi, s2, h3, h5, fun H3 Z3 Fs3 s3 c3 => ?_⟩
    have c23 := c2.trans c3
    have cAll := (p.ch.trans c23)
    have hbk : ∀ i b', kpr a y = some (i, b') → plain (kesc a y E1).1.1 = true ∨ i ∉ wr b ++ wr c := fun i b' e => by
      unfold kpr at e
      split at e
      · exact brw_ok hb i b' e
      · cases e
    obtain ⟨_, kr⟩ := p.keep c23 hbk
    have sub : ∀ i, i ∈ ((if isPl a then [root a] else []) ++ wr a) ++ (wr b ++ wr c) → i ∈ wr (.sl a b c) := fun i hi => by
      simp only [wr, List.mem_append] at hi ⊢
      rcases hi with (z | z) | z
      · exact .inl z
      · exact .inr (.inl z)
      · exact .inr (.inr z)
    refine f v H3 Z3 Fd Fs3 s3 (cAll.mono sub) kr fun hpl => ?_
    have e0 : kpr a y = none := by
      unfold kpr
      split
      · rename_i hk
        cases hp : isPl a with
        | false => simp [pr, hp]
        | true =>
          -- a place whose parts are plain: nothing to show
          have ek : kesc a y E1 = (y, E1) := by simp [kesc, hp, hk]
          rw [ek] at hpl
          obtain ⟨yd, yw⟩ := y
          cases yd <;> simp_all
      · rfl
    rw [e0] at p
    obtain ⟨n1, n2, n3⟩ := p.apart c23
    obtain ⟨m1, m2, m3⟩ := p.ex rfl
    refine ⟨List.nodup_append.mpr ⟨(List.nodup_append.mp m1).1, s3.nd, fun q hq q' hq' => ?_⟩, n2, fun q hq => (m3 q hq).imp id fun y => y.mono fun i hi => sub i (List.mem_append_left _ hi)⟩
    rintro rfl
    exact n1 q hq hq'
  generalize kesc a y E1 = yk at *
  obtain ⟨⟨yd, yw⟩, E1'⟩ := yk
  cases yd with
  | lst ys =>
    refine .inl (.inl (key fun v H3 Z3 Fd Fs3 s3 c3 r ex => ?_))
    simp only [slD, Option.some.injEq] at h6
    subst h6
    obtain ⟨p, vs, G, rfl, hq, hr, ef⟩ := r
    refine ⟨p, vs, rfl, hK ▸ hq.sub s3.sub, fun q hq' => ?_⟩
    obtain ⟨G1, r1, s1⟩ := Rs_drop (HT.sIx ys.length 0 lo) hr
    obtain ⟨G2, r2, s2⟩ := Rs_take (HT.sIx ys.length ys.length hi - HT.sIx ys.length 0 lo) r1
    have ecut : cutV vs lo hi = (vs.drop (HT.sIx ys.length 0 lo)).take (HT.sIx ys.length ys.length hi - HT.sIx ys.length 0 lo) := by
      unfold cutV
      rw [Rs_len hr]
    rw [ecut]
    obtain ⟨Fd', q⟩ := new_list (u := yw) s3 c3 r2 hq' fun hpl hdeep => by
      subst hdeep
      obtain ⟨n1, n2, n3⟩ := ex (by
        show plains ys = false
        cases q : plains ys with
        | false => rfl
        | true =>
          have sub : ∀ (l : List D), plains l = true ↔ ∀ d ∈ l, plain d = true := fun l => by
            induction l with
            | nil => simp
            | cons d l ih => simp [ih]
          rw [(sub _).mpr fun d hd => (sub ys).mp q d (List.mem_of_mem_drop (List.mem_of_mem_take hd))] at hpl
          cases hpl)
      have ss : ∀ a' ∈ G2, a' ∈ Fd := fun a' ha => by
        rw [ef]
        exact List.mem_cons_of_mem _ ((s2.trans s1).subset ha)
      refine ⟨List.nodup_append.mpr ⟨((List.nodup_append.mp n1).1).sublist (by rw [ef]; exact (s2.trans s1).trans (List.sublist_cons_self _ _)), s3.nd, fun q hq q' hq' => ?_⟩, fun a' ha => n2 a' (ss a' ha), fun a' ha => n3 a' (ss a' ha)⟩
      rintro rfl
      exact absurd rfl ((List.nodup_append.mp n1).2.2 q (ss q hq) q hq')
    exact k _ _ Z3 Fd' Fs3 q
  | str s =>
    refine .inl (.inr (key fun v H3 Z3 Fd Fs3 s3 c3 r ex => ?_))
    simp only [slD, Option.some.injEq] at h6
    subst h6
    refine ⟨s, r.1.1, r.1.2.1, ?_⟩
    refine k _ H3 Z3 [] Fs3 ⟨s3, c3, ⟨⟨rfl, Nat.le_trans len_cut r.1.2.1, strOk_cut r.1.2.2⟩, rfl⟩, fun _ => ⟨by simpa using s3.nd, fun _ m => (by cases m), fun _ m => (by cases m)⟩, fun _ _ z => (by simp [pr] at z)⟩
  | tup ys =>
    refine .inr (key fun v H3 Z3 Fd Fs3 s3 c3 r ex => ?_)
    simp only [slD] at h6
    split at h6
    · cases h6
    · rename_i hnw
      simp only [Option.some.injEq] at h6
      subst h6
      obtain ⟨p, vs, rfl, hq, hr⟩ := r
      refine ⟨p, vs, rfl, SqT.of (tup_sub s3.sub hq), by rw [Rs_len hr]; exact hnw, fun q hq' => ?_⟩
      obtain ⟨G1, r1, s1⟩ := Rs_drop (HT.sIx ys.length 0 lo) hr
      obtain ⟨G2, r2, s2⟩ := Rs_take (HT.sIx ys.length ys.length hi - HT.sIx ys.length 0 lo) r1
      have ecut : cutV vs lo hi = (vs.drop (HT.sIx ys.length 0 lo)).take (HT.sIx ys.length ys.length hi - HT.sIx ys.length 0 lo) := by
        unfold cutV
        rw [Rs_len hr]
      rw [ecut]
      have zp := s3.sub.none hq'
      have le : Le Z3 (upd Z3 q (.tup ((vs.drop (HT.sIx ys.length 0 lo)).take (HT.sIx ys.length ys.length hi - HT.sIx ys.length 0 lo)))) := upd_keep zp
      have ne : ∀ a' ∈ G2, a' ≠ q := fun a' ha z => Rs_there _ r2 ha (z ▸ hq')
      have rr : R B.K B.FA (upd Z3 q (.tup ((vs.drop (HT.sIx ys.length 0 lo)).take (HT.sIx ys.length ys.length hi - HT.sIx ys.length 0 lo)))) (upd H3 q (.tup ((vs.drop (HT.sIx ys.length 0 lo)).take (HT.sIx ys.length ys.length hi - HT.sIx ys.length 0 lo)))) yw
          (.tup ((ys.drop (HT.sIx ys.length 0 lo)).take (HT.sIx ys.length ys.length hi - HT.sIx ys.length 0 lo))) (.ref q) G2 := ⟨q, _, rfl, upd_same, Rs_keep le _ (fun a' ha => upd_ne (ne a' ha)) r2⟩
      cases hpl : plains ys with
      | true =>
        obtain ⟨e1, kr⟩ := Rs_plain ys hpl hr
        have e2 : G2 = [] := List.sublist_nil.mp (by rw [← e1]; exact s2.trans s1)
        subst e2
        exact k _ _ _ [] Fs3 ⟨s3.laidZ hq', c3.laidZ s3.sub hq', R_vl rr, fun _ => ⟨by simpa using s3.nd, fun _ m => (by cases m), fun _ m => (by cases m)⟩, fun _ _ z => (by simp [pr] at z)⟩
      | false =>
        obtain ⟨n1, n2, n3⟩ := ex hpl
        have ss : ∀ a' ∈ G2, a' ∈ Fd := fun a' ha => (s2.trans s1).subset ha
        refine k _ _ _ G2 Fs3 ⟨s3.laidZ hq', c3.laidZ s3.sub hq', R_vl rr, fun _ => ⟨List.nodup_append.mpr ⟨((List.nodup_append.mp n1).1).sublist (s2.trans s1), s3.nd, fun b hb b' hb' => ?_⟩, fun a' ha => ?_, fun a' ha => n3 a' (ss a' ha)⟩, fun _ _ z => (by simp [pr] at z)⟩
        · rintro rfl
          exact absurd rfl ((List.nodup_append.mp n1).2.2 b (ss b hb) b hb')
        · rw [upd_ne (ne a' ha)]
          exact n2 a' (ss a' ha)
  | _ => simp [slD] at h6
end
end BS

set_option Elab.async false
set_option linter.all false
set_option maxRecDepth 100000
set_option maxHeartbeats 2000000
namespace BS
open PySem PySem.Spec PyProof.Rows L2
section
variable {X : Cx} {B : Bk} {pos p : Pos} {ea eb ec : Expr} {a b c : Ex}
theorem ev_cat {Φ : Phi} {E E' : En} {x : Val} (h : ev Φ (.cat a b) E = some (x, E')) : ∃ x0 E1 y0 E2 xs w ys u, ev Φ a E = some (x0, E1) ∧ brw a (wr b) (kesc a x0 E1).1 = true ∧ ev Φ b (kesc a x0 E1).2 = some (y0, E2) ∧
    (kesc a x0 E1).1 = (.lst xs, w) ∧ (kesc b y0 E2).1 = (.lst ys, u) ∧ xs.length + ys.length ≤ line ∧ ((w = .deep ∧ u = .deep) ∨ ((w ≠ .deep ∨ plains xs = true) ∧ (u ≠ .deep ∨ plains ys = true))) ∧ x = newLst (xs ++ ys) (if w = .deep ∧ u = .deep then .deep else .sh) ∧ E' = (kesc b y0 E2).2 := by
  simp only [ev, Option.bind_eq_bind, Option.bind_eq_some_iff, Prod.exists] at h
  obtain ⟨x0, w0, E1, h1, h⟩ := h
  by_cases hb : brw a (wr b) (kesc a (x0, w0) E1).1 = true
  · rw [if_pos hb] at h
    simp only [Option.bind_eq_some_iff, Prod.exists] at h
    obtain ⟨y0, u0, E2, h2, h⟩ := h
    generalize e1 : (kesc a (x0, w0) E1).1 = xx at h hb
    generalize e2 : (kesc b (y0, u0) E2).1 = yy at h
    obtain ⟨xd, xw⟩ := xx
    obtain ⟨yd, yw⟩ := yy
    cases xd with
    | lst xs =>
      cases yd with
      | lst ys =>
        simp only at h
        split at h
        · rename_i hc
          simp only [Option.some.injEq, Prod.mk.injEq] at h
          obtain ⟨rfl, rfl⟩ := h
          exact ⟨(x0, w0), E1, (y0, u0), E2, xs, xw, ys, yw, h1, by rw [e1]; exact hb, h2, e1, e2, hc.1, hc.2, rfl, rfl⟩
        · cases h
      | _ => simp at h
    | _ => simp at h
  · rw [if_neg hb] at h
    cases h
theorem kesc_content (e : Ex) (x : Val) (E : En) : (kesc e x E).1.1 = x.1 := by
  unfold kesc
  split <;> rfl
theorem kpr_none {e : Ex} {x : Val} {E : En} {xs : List D} {w : Ow} (h : (kesc e x E).1 = (.lst xs, w)) (hp : plains xs = false) : kpr e x = none := by
  have e1 : x.1 = .lst xs := by rw [← kesc_content e x E, h]
  unfold kpr
  rw [e1, kplain_lst, hp]
  rfl
theorem kbrw {e : Ex} {x : Val} {E : En} {w : List Nat} (h : brw e w (kesc e x E).1 = true) : ∀ i b', kpr e x = some (i, b') → plain (kesc e x E).1.1 = true ∨ i ∉ w := fun i b' q => by
  unfold kpr at q
  split at q
  · exact brw_ok h i b' q
  · cases q
theorem plains_app : ∀ (xs ys : List D), plains (xs ++ ys) = (plains xs && plains ys)
  | [], ys => rfl
  | x :: xs, ys => by simp [plains_app xs ys, Bool.and_assoc]
theorem sx_cat (ha : PE X ea (SE B a)) (hb : PE X eb (SE B b)) : PE X (.BinOp ea .Add eb pos) (SE B (.cat a b)) := by
  refine (pe_op op_cat ha hb).imp fun σ H Q h => ?_
  obtain ⟨Z, E, Fs, x, E', st, he, k⟩ := h
  obtain ⟨x0, E1, y0, E2, xs, w, ys, u, h1, hb, h2, e1, e2, hl, hc, rfl, rfl⟩ := ev_cat he
  refine ⟨Z, E, Fs, x0, E1, st, h1, fun v H1 Z0 Fd0 Fs0 p0 => ?_⟩
  obtain ⟨Z1, Fd1, Fs1, p⟩ := p0.kesc
  refine ⟨Z1, _, Fs1, y0, E2, p.st, h2, fun v2 H2 Z20 Fd20 Fs20 q0 => ?_⟩
  obtain ⟨Z2, Fd2, Fs2, q⟩ := q0.kesc
  have sub : ∀ i, i ∈ ((if isPl a then [root a] else []) ++ wr a) ++ ((if isPl b then [root b] else []) ++ wr b) → i ∈ wr (.cat a b) := fun i hi => by simpa only [wr] using hi
  have cAll := (p.ch.trans q.ch).mono sub
  have eq1 : kesc a x0 E1 = ((.lst xs, w), (kesc a x0 E1).2) := by rw [← e1]
  have eq2 : kesc b y0 E2 = ((.lst ys, u), (kesc b y0 E2).2) := by rw [← e2]
  -- the first one, behind the second
  have frm : (∀ z ∈ Fd1, H2 z = H1 z) ∧ R B.K B.FA Z2 H2 w (.lst xs) v Fd1 := by
    have nr : ∀ i b', kpr a x0 = some (i, b') → plain (kesc a x0 E1).1.1 = true ∨ i ∉ wr b := kbrw hb
    -- the second's own escape doesn't touch the first's cells
    have hv := p.val
    rw [e1] at hv
    have k1 := p.keep q0.ch nr
    rw [e1] at k1
    refine ⟨k1.1, ?_⟩
    have le : Le Z1 Z2 := q.ch.le
    exact R_keep le _ k1.1 hv
  have hy := q.val
  rw [e2] at hy
  obtain ⟨p1, vs, G1, rfl, hq1, r1, ef1⟩ := frm.2
  obtain ⟨p2, us, G2, rfl, hq2, r2, ef2⟩ := hy
  refine ⟨p1, p2, vs, us, rfl, rfl, LAt.sub' q.st.sub hq1, LAt.sub' q.st.sub hq2, by rw [Rs_len r1, Rs_len r2]; exact hl, fun t ht => ?_⟩
  -- what the parts are, all of one flag
  have fin : ∀ (u' : Ow) (A C : List Addr), Rs B.K B.FA Z2 H2 (kid u') xs vs A → Rs B.K B.FA Z2 H2 (kid u') ys us C →
      (plains (xs ++ ys) = false → u' = .deep → ((A ++ C) ++ Fs2.flatten).Nodup ∧ (∀ z ∈ A ++ C, Z2 z = none) ∧ ∀ z ∈ A ++ C, H z = none ∨ WC Fs (wr (.cat a b)) z) →
      newLst (xs ++ ys) u' = newLst (xs ++ ys) (if w = .deep ∧ u = .deep then .deep else .sh) → Q (.ref t) (upd H2 t (.lst (vs ++ us))) := fun u' A C ra rc ex en => by
    obtain ⟨Fd, r⟩ := new_list (u := u') q.st cAll (Rs_app ra rc) ht ex
    rw [en] at r
    exact k _ _ Z2 Fd Fs2 r
  by_cases hd : w = .deep ∧ u = .deep
  · obtain ⟨rfl, rfl⟩ := hd
    refine fin .deep G1 G2 r1 r2 (fun hpl _ => ?_) (by simp)
    rw [plains_app] at hpl
    have x1 : (∀ z ∈ G1, z ∉ Fs2.flatten) ∧ (∀ z ∈ G1, Z2 z = none) ∧ (∀ z ∈ G1, H z = none ∨ WC Fs (wr (.cat a b)) z) ∧ G1.Nodup ∧ (∀ z ∈ G1, z ∉ G2) := by
      cases hx : plains xs with
      | true =>
        obtain ⟨e0, _⟩ := Rs_plain xs hx r1
        subst e0
        exact ⟨fun _ m => (by cases m), fun _ m => (by cases m), fun _ m => (by cases m), List.nodup_nil, fun _ m => (by cases m)⟩
      | false =>
        have en := kpr_none e1 hx
        rw [en] at p
        obtain ⟨n1, n2, n3⟩ := p.apart q.ch
        obtain ⟨m1, m2, m3⟩ := p.ex rfl
        have ss : ∀ z ∈ G1, z ∈ Fd1 := fun z hz => by rw [ef1]; exact List.mem_cons_of_mem _ hz
        refine ⟨fun z hz => n1 z (ss z hz), fun z hz => n2 z (ss z hz), fun z hz => (m3 z (ss z hz)).imp id fun y => y.mono fun i hi => sub i (List.mem_append_left _ hi), ?_, fun z hz hz2 => ?_⟩
        · have := (List.nodup_append.mp m1).1
          rw [ef1] at this
          exact (List.nodup_cons.mp this).2
        · cases hy2 : plains ys with
          | true =>
            obtain ⟨e0, _⟩ := Rs_plain ys hy2 r2
            rw [e0] at hz2
            cases hz2
          | false =>
            have en2 := kpr_none e2 hy2
            rw [en2] at q
            obtain ⟨o1, o2, o3⟩ := q.ex rfl
            exact n3 z (ss z hz) (o3 z (by rw [ef2]; exact List.mem_cons_of_mem _ hz2))
    have x2 : (G2 ++ Fs2.flatten).Nodup ∧ (∀ z ∈ G2, Z2 z = none) ∧ (∀ z ∈ G2, H z = none ∨ WC Fs (wr (.cat a b)) z) := by
      cases hy2 : plains ys with
      | true =>
        obtain ⟨e0, _⟩ := Rs_plain ys hy2 r2
        subst e0
        exact ⟨by simpa using q.st.nd, fun _ m => (by cases m), fun _ m => (by cases m)⟩
      | false =>
        have en2 := kpr_none e2 hy2
        rw [en2] at q
        obtain ⟨o1, o2, o3⟩ := q.ex rfl
        have ss : ∀ z ∈ G2, z ∈ Fd2 := fun z hz => by rw [ef2]; exact List.mem_cons_of_mem _ hz
        refine ⟨?_, fun z hz => o2 z (ss z hz), fun z hz => ?_⟩
        · rw [ef2] at o1
          exact (List.nodup_cons.mp o1).2
        · rcases o3 z (ss z hz) with y | y
          · exact .inl (p.ch.free y)
          · rcases p.ch.wc y with y | y
            · exact .inr (y.mono sub)
            · exact .inl y
    refine ⟨?_, fun z hz => ?_, fun z hz => ?_⟩
    · rw [List.append_assoc]
      refine List.nodup_append.mpr ⟨x1.2.2.2.1, x2.1, fun z hz z' hz' => ?_⟩
      rintro rfl
      rcases List.mem_append.mp hz' with m | m
      · exact x1.2.2.2.2 z hz m
      · exact x1.1 z hz m
    · rcases List.mem_append.mp hz with m | m
      · exact x1.2.1 z m
      · exact x2.2.1 z m
    · rcases List.mem_append.mp hz with m | m
      · exact x1.2.2.1 z m
      · exact x2.2.2 z m
  · have hc' : (w ≠ .deep ∨ plains xs = true) ∧ (u ≠ .deep ∨ plains ys = true) := by
      rcases hc with z | z
      · exact absurd z hd
      · exact z
    have shx : ∀ {l : List D} {w' : Ow} {vs : List V} {G : List Addr}, (w' ≠ .deep ∨ plains l = true) → Rs B.K B.FA Z2 H2 (kid w') l vs G → Rs B.K B.FA Z2 H2 .sh l vs [] := fun {l w' vs G} hh rr => by
      rcases hh with z | z
      · have r' : Rs B.K B.FA Z2 H2 .sh l vs G := by
          cases w'
          · exact rr
          · exact rr
          · exact absurd rfl z
        have e0 := Rs_sh l r'
        subst e0
        exact r'
      · exact (Rs_plain l z rr).2 _ _
    exact fin .sh [] [] (shx hc'.1 r1) (shx hc'.2 r2) (fun _ z => by cases z) (by rw [if_neg hd])
end
end BS

set_option Elab.async false
set_option linter.all false
set_option maxRecDepth 100000
set_option maxHeartbeats 2000000
namespace BS
open PySem PySem.Spec PyProof.Rows L2

theorem set_perm : ∀ {Fs : List (List Addr)} {i : Nat} {F : List Addr}, i < Fs.length → (Fs.set i F).flatten.Perm (F ++ (Fs.set i []).flatten)
  | G :: Fs, 0, F, _ => by simp
  | G :: Fs, i + 1, F, h => by
    simp only [List.set_cons_succ, List.flatten_cons]
    have ih := set_perm (Fs := Fs) (i := i) (F := F) (by simpa using h)
    refine (List.Perm.append_left G ih).trans ?_
    rw [← List.append_assoc, ← List.append_assoc]
    exact List.Perm.append_right _ List.perm_append_comm
  | [], _, _, h => by simp at h
theorem unset_sub : ∀ {Fs : List (List Addr)} {i : Nat}, (Fs.set i []).flatten.Sublist Fs.flatten
  | [], _ => by simp
  | G :: Fs, 0 => by simp
  | G :: Fs, i + 1 => by
    simp only [List.set_cons_succ, List.flatten_cons]
    exact List.Sublist.append_left unset_sub G
theorem self_perm {Fs : List (List Addr)} {i : Nat} : Fs.flatten.Perm (Fs.getD i [] ++ (Fs.set i []).flatten) := by
  by_cases h : i < Fs.length
  · have := set_perm (Fs := Fs) (i := i) (F := Fs.getD i []) h
    rwa [set_self (by rw [List.getD_eq_getElem?_getD, List.getElem?_eq_getElem h]; rfl)] at this
  · rw [List.getD_eq_getElem?_getD, List.getElem?_eq_none (by simpa using h), List.set_eq_of_length_le (by simpa using h)]
    simp
theorem getD_set_ne {Fs : List (List Addr)} {i j : Nat} {F : List Addr} (h : i ≠ j) : (Fs.set i F).getD j [] = Fs.getD j [] := by
  rw [List.getD_eq_getElem?_getD, List.getElem?_set_ne h, ← List.getD_eq_getElem?_getD]

def ios : List Ar → List Nat
  | [] => []
  | .inl _ :: r => ios r
  | .inr i :: r => i :: ios r
def iosE : List Ex → List Nat
  | [] => []
  | .io i :: r => i :: iosE r
  | _ :: r => iosE r
section
variable {K : PySem.W.Frag} {FA : Nat → Addr → Prop} {Z Z' H H' : Hp}
def RA (K : PySem.W.Frag) (FA : Nat → Addr → Prop) (Z H : Hp) (σ : Sl) : List Ar → List V → List (List Addr) → Prop
  | [], [], [] => True
  | .inl x :: ars, v :: vs, F :: Fds => R K FA Z H x.2 x.1 v F ∧ RA K FA Z H σ ars vs Fds
  | .inr i :: ars, v :: vs, F :: Fds => (σ[i]? = some (some v) ∧ F = []) ∧ RA K FA Z H σ ars vs Fds
  | _, _, _ => False
structure Pas (K : PySem.W.Frag) (FA : Nat → Addr → Prop) (w : List Nat) (Z H : Hp) (E : En) (Fs : List (List Addr)) (σ : Sl) (ars : List Ar) (E' : En) (vs : List V) (Z' H' : Hp) (Fds Fs' : List (List Addr)) : Prop where
  st : Stt K FA Z' H' E' σ Fs'
  ch : Chg w Z H E Fs Z' H' E' Fs'
  val : RA K FA Z' H' σ ars vs Fds
  nd : (Fds.flatten ++ Fs'.flatten).Nodup
  zf : ∀ a ∈ Fds.flatten, Z' a = none
  fd : ∀ a ∈ Fds.flatten, H a = none ∨ WC Fs w a
theorem gat_R {σ : Sl} : ∀ {ars : List Ar} {vs : List V} {Fds : List (List Addr)} {E E2 : En} {Fs : List (List Addr)} {xs : List Val}, RA K FA Z H σ ars vs Fds → RE K FA Z H E σ Fs → gat ars E = some (xs, E2) →
    ∃ Fall Fs2, RL K FA Z H xs vs Fall ∧ RE K FA Z H E2 σ Fs2 ∧ (Fall.flatten ++ Fs2.flatten).Perm (Fds.flatten ++ Fs.flatten) ∧ (∀ a ∈ Fall.flatten, a ∈ Fds.flatten ∨ WC Fs (ios ars) a) ∧ (∀ j, j ∉ ios ars → Fs2.getD j [] = Fs.getD j [] ∧ E2[j]? = E[j]?) ∧ ∀ j a, a ∈ Fs2.getD j [] → a ∈ Fs.getD j []
  | [], [], [], E, E2, Fs, xs, _, hE, hg => by
    simp only [gat, Option.some.injEq, Prod.mk.injEq] at hg
    obtain ⟨rfl, rfl⟩ := hg
    exact ⟨[], Fs, trivial, hE, List.Perm.refl _, fun _ m => (by simp at m), fun _ _ => ⟨rfl, rfl⟩, fun _ _ h => h⟩
  | .inl x :: ars, v :: vs, F :: Fds, E, E2, Fs, xs, h, hE, hg => by
    simp only [gat, Option.bind_eq_bind, Option.bind_eq_some_iff, Prod.exists] at hg
    obtain ⟨ys, E1, h1, h2⟩ := hg
    simp only [Option.some.injEq, Prod.mk.injEq] at h2
    obtain ⟨rfl, rfl⟩ := h2
    obtain ⟨Fall, Fs2, a1, a2, a3, a4, a5, a6⟩ := gat_R h.2 hE h1
    refine ⟨F :: Fall, Fs2, ⟨h.1, a1⟩, a2, ?_, fun a ha => ?_, a5, a6⟩
    · simp only [List.flatten_cons, List.append_assoc]
      exact List.Perm.append_left F a3
    · rw [List.flatten_cons] at ha ⊢
      rcases List.mem_append.mp ha with m | m
      · exact .inl (List.mem_append_left _ m)
      · exact (a4 a m).imp (List.mem_append_right _) id
  | .inr i :: ars, v :: vs, F :: Fds, E, E2, Fs, xs, h, hE, hg => by
    obtain ⟨⟨hv, rfl⟩, hr⟩ := h
    unfold gat at hg
    cases e : E[i]? with
    | none => rw [e] at hg; cases hg
    | some o =>
      rw [e] at hg
      cases o with
      | none => cases hg
      | some x =>
        simp only [Option.bind_eq_bind, Option.bind_eq_some_iff, Prod.exists] at hg
        obtain ⟨ys, E1, h1, h2⟩ := hg
        simp only [Option.some.injEq, Prod.mk.injEq] at h2
        obtain ⟨rfl, rfl⟩ := h2
        obtain ⟨v', hv', ro⟩ := hE.get e
        rw [hv] at hv'
        cases hv'
        have ro : R K FA Z H x.2 x.1 v (Fs.getD i []) := ro
        have hE' : RE K FA Z H (E.set i none) σ (Fs.set i []) := hE.turn hv (show RO K FA Z H none (some v) [] from rfl)
        obtain ⟨Fall, Fs2, a1, a2, a3, a4, a5, a6⟩ := gat_R hr hE' h1
        refine ⟨Fs.getD i [] :: Fall, Fs2, ⟨ro, a1⟩, a2, ?_, fun a ha => ?_, fun j hj => ?_, fun j a ha => ?_⟩
        · simp only [List.flatten_cons, List.append_assoc, List.nil_append]
          refine (List.Perm.append_left _ a3).trans ?_
          rw [← List.append_assoc]
          refine (List.Perm.append_right _ List.perm_append_comm).trans ?_
          rw [List.append_assoc]
          exact List.Perm.append_left _ self_perm.symm
        · rw [List.flatten_cons] at ha ⊢
          rcases List.mem_append.mp ha with m | m
          · exact .inr ⟨i, List.mem_cons_self, m⟩
          · rcases a4 a m with y | ⟨j, hj, y⟩
            · exact .inl (List.mem_append_right _ y)
            · rcases getD_set y with ⟨_, z⟩ | ⟨_, z⟩
              · cases z
              · exact .inr ⟨j, List.mem_cons_of_mem _ hj, z⟩
        · have n1 : i ≠ j := fun z => hj (by rw [z]; exact List.mem_cons_self)
          obtain ⟨b1, b2⟩ := a5 j fun z => hj (List.mem_cons_of_mem _ z)
          rw [b1, b2, getD_set_ne n1, List.getElem?_set_ne n1]
          exact ⟨rfl, rfl⟩
        · rcases getD_set (a6 j a ha) with ⟨_, z⟩ | ⟨_, z⟩
          · cases z
          · exact z
  | [], [], _ :: _, _, _, _, _, h, _, _ => h.elim
  | [], _ :: _, _, _, _, _, _, h, _, _ => h.elim
  | .inl _ :: _, [], _, _, _, _, _, h, _, _ => h.elim
  | .inl _ :: _, _ :: _, [], _, _, _, _, h, _, _ => h.elim
  | .inr _ :: _, [], _, _, _, _, _, h, _, _ => h.elim
  | .inr _ :: _, _ :: _, [], _, _, _, _, h, _, _ => h.elim

theorem scat_R {σ : Sl} {Z1 H1 : Hp} : ∀ {ars : List Ar} {vs : List V} {Fds Fos Fs : List (List Addr)} {os : List (Option Val)} {E : En} {L : List Addr}, RA K FA Z1 H1 σ ars vs Fds → RE K FA Z H os (vs.map some) Fos → RE K FA Z H E σ Fs → (L ++ (Fos.flatten ++ Fs.flatten)).Nodup →
    ∃ Fs3, RE K FA Z H (scat ars os E) σ Fs3 ∧ (L ++ Fs3.flatten).Nodup ∧ (∀ j a, a ∈ Fs3.getD j [] → a ∈ Fs.getD j [] ∨ a ∈ Fos.flatten) ∧ ∀ j, j ∉ ios ars → Fs3.getD j [] = Fs.getD j [] ∧ (scat ars os E)[j]? = E[j]?
  | [], [], [], [], Fs, [], E, L, _, _, hE, n => by
    exact ⟨Fs, hE, by simpa using n, fun _ _ h => .inl h, fun _ _ => ⟨rfl, rfl⟩⟩
  | .inl x :: ars, v :: vs, F :: Fds, Fo :: Fos, Fs, o :: os, E, L, h, ho, hE, n => by
    have n' : (L ++ (Fos.flatten ++ Fs.flatten)).Nodup := n.sublist (List.Sublist.append_left (List.Sublist.append_right (by rw [List.flatten_cons]; exact List.sublist_append_right _ _) _) L)
    obtain ⟨Fs3, a1, a2, a3, a4⟩ := scat_R h.2 ho.2 hE n'
    exact ⟨Fs3, a1, a2, fun j a ha => (a3 j a ha).imp id fun m => by rw [List.flatten_cons]; exact List.mem_append_right _ m, a4⟩
  | .inr i :: ars, v :: vs, F :: Fds, Fo :: Fos, Fs, o :: os, E, L, h, ho, hE, n => by
    have hE' : RE K FA Z H (E.set i o) σ (Fs.set i Fo) := hE.turn h.1.1 ho.1
    have hil : i < Fs.length := by
      have := hE.length.2
      rw [this]
      exact (List.getElem?_eq_some_iff.mp h.1.1).1
    have n' : (L ++ (Fos.flatten ++ (Fs.set i Fo).flatten)).Nodup := by
      have e : (L ++ (Fos.flatten ++ (Fs.set i Fo).flatten)).Perm (L ++ ((Fo ++ Fos.flatten) ++ (Fs.set i []).flatten)) := by
        refine List.Perm.append_left L ?_
        refine (List.Perm.append_left _ (set_perm hil)).trans ?_
        rw [← List.append_assoc]
        exact List.Perm.append_right _ List.perm_append_comm
      refine e.nodup_iff.mpr (n.sublist ?_)
      rw [List.flatten_cons]
      exact List.Sublist.append_left (List.Sublist.append_left unset_sub _) L
    obtain ⟨Fs3, a1, a2, a3, a4⟩ := scat_R h.2 ho.2 hE' n'
    refine ⟨Fs3, a1, a2, fun j a ha => ?_, fun j hj => ?_⟩
    · rw [List.flatten_cons]
      rcases a3 j a ha with m | m
      · rcases getD_set m with ⟨_, z⟩ | ⟨_, z⟩
        · exact .inr (List.mem_append_left _ z)
        · exact .inl z
      · exact .inr (List.mem_append_right _ m)
    · have n1 : i ≠ j := fun z => hj (by rw [z]; exact List.mem_cons_self)
      obtain ⟨b1, b2⟩ := a4 j fun z => hj (List.mem_cons_of_mem _ z)
      show _ ∧ (scat ars os (E.set i o))[j]? = _
      rw [b1, b2, getD_set_ne n1, List.getElem?_set_ne n1]
      exact ⟨rfl, rfl⟩
  | [], [], [], _ :: _, _, _, _, _, _, ho, _, _ => by
    have := ho.length
    simp at this
  | [], [], [], [], _, _ :: _, _, _, _, ho, _, _ => by
    have := ho.length
    simp at this
  | [], [], _ :: _, _, _, _, _, _, h, _, _, _ => h.elim
  | [], _ :: _, _, _, _, _, _, _, h, _, _, _ => h.elim
  | .inl _ :: _, [], _, _, _, _, _, _, h, _, _, _ => h.elim
  | .inl _ :: _, _ :: _, [], _, _, _, _, _, h, _, _, _ => h.elim
  | .inl _ :: _, _ :: _, _ :: _, [], _, _, _, _, _, ho, _, _ => by
    have := ho.length
    simp at this
  | .inl _ :: _, _ :: _, _ :: _, _ :: _, _, [], _, _, _, ho, _, _ => by
    have := ho.length
    simp at this
  | .inr _ :: _, [], _, _, _, _, _, _, h, _, _, _ => h.elim
  | .inr _ :: _, _ :: _, [], _, _, _, _, _, h, _, _, _ => h.elim
  | .inr _ :: _, _ :: _, _ :: _, [], _, _, _, _, _, ho, _, _ => by
    have := ho.length
    simp at this
  | .inr _ :: _, _ :: _, _ :: _, _ :: _, _, [], _, _, _, ho, _, _ => by
    have := ho.length
    simp at this

structure Pc (K : PySem.W.Frag) (FA : Nat → Addr → Prop) (Z H : Hp) (Fds : List (List Addr)) (r : Val) (os : List (Option Val)) (vs : List V) (v : V) (Z' H' : Hp) (Fd : List Addr) (Fos : List (List Addr)) : Prop where
  le : Le Z Z'
  zn : ∀ a u, Z' a = some u → Z a = some u ∨ a ∈ Fds.flatten ∨ H a = none
  sub : Sub Z' H'
  val : R K FA Z' H' r.2 r.1 v Fd
  outs : RE K FA Z' H' os (vs.map some) Fos
  nd : (Fd ++ Fos.flatten).Nodup
  zf : ∀ a ∈ Fd ++ Fos.flatten, Z' a = none
  fr : ∀ a ∈ Fd ++ Fos.flatten, a ∈ Fds.flatten ∨ H a = none
  frame : ∀ a u, H a = some u → a ∉ Fds.flatten → H' a = some u
  there : ∀ a, H a ≠ none → H' a ≠ none
def spV (K : PySem.W.Frag) (FA : Nat → Addr → Prop) (f : List Val → Option (Val × List (Option Val))) : Sp := fun vs H Q _ => ∃ Z xs Fds r os, Sub Z H ∧ RL K FA Z H xs vs Fds ∧ Fds.flatten.Nodup ∧ (∀ a ∈ Fds.flatten, Z a = none) ∧ f xs = some (r, os) ∧
  ∀ v H' Z' Fd Fos, Pc K FA Z H Fds r os vs v Z' H' Fd Fos → Q v H'
end

def SAs (B : Bk) (es : List Ex) : TA := fun σ H Q => ∃ Z E Fs ars E', Stt B.K B.FA Z H E σ Fs ∧ eva B.Φ es E = some (ars, E') ∧ ios ars = iosE es ∧
  ∀ vs H' Z' Fds Fs', Pas B.K B.FA (wrs es) Z H E Fs σ ars E' vs Z' H' Fds Fs' → Q vs H'
theorem eva_io {Φ : Phi} {i : Nat} {as : List Ex} {E E' : En} {ars : List Ar} (h : eva Φ (.io i :: as) E = some (ars, E')) : ∃ x r, E[i]? = some (some x) ∧ eva Φ as E = some (r, E') ∧ ars = .inr i :: r := by
  simp only [eva] at h
  cases e : E[i]? with
  | none => rw [e] at h; cases h
  | some o =>
    rw [e] at h
    cases o with
    | none => cases h
    | some x =>
      simp only [Option.bind_eq_bind, Option.bind_eq_some_iff, Prod.exists] at h
      obtain ⟨r, E1, h1, h2⟩ := h
      simp only [Option.some.injEq, Prod.mk.injEq] at h2
      obtain ⟨rfl, rfl⟩ := h2
      exact ⟨x, r, rfl, h1, rfl⟩
def notIo : Ex → Bool
  | .io _ => false
  | _ => true
theorem eva_cons {Φ : Phi} {a : Ex} {as : List Ex} {E E' : En} {ars : List Ar} (hn : notIo a = true) (h : eva Φ (a :: as) E = some (ars, E')) : ∃ x E1 r, ev Φ a E = some (x, E1) ∧ eva Φ as (esc a x E1).2 = some (r, E') ∧ ars = .inl (esc a x E1).1 :: r := by
  cases a with
  | io i => simp [notIo] at hn
  | _ =>
    simp only [eva, Option.bind_eq_bind, Option.bind_eq_some_iff, Prod.exists] at h
    obtain ⟨y, w, E1, h1, ys, E2, h2, h⟩ := h
    simp only [Option.some.injEq, Prod.mk.injEq] at h
    obtain ⟨rfl, rfl⟩ := h
    exact ⟨(y, w), E1, ys, h1, h2, rfl⟩
theorem iosE_cons {a : Ex} {as : List Ex} (hn : notIo a = true) : iosE (a :: as) = iosE as := by
  cases a <;> first | rfl | simp [notIo] at hn
theorem eva_ios {Φ : Phi} : ∀ {as : List Ex} {E E' : En} {ars : List Ar}, eva Φ as E = some (ars, E') → ios ars = iosE as
  | [], E, E', ars, h => by
    simp only [eva, Option.some.injEq, Prod.mk.injEq] at h
    obtain ⟨rfl, _⟩ := h
    rfl
  | a :: as, E, E', ars, h => by
    cases hn : notIo a with
    | true =>
      obtain ⟨x, E1, r, h1, h2, rfl⟩ := eva_cons hn h
      rw [iosE_cons hn]
      show ios r = iosE as
      exact eva_ios h2
    | false =>
      cases a <;> simp [notIo] at hn
      obtain ⟨_, r, _, h1, rfl⟩ := eva_io h
      show _ :: ios r = _ :: iosE as
      rw [eva_ios h1]
section
variable {X : Cx} {B : Bk} {pos p : Pos} {e : Expr} {es : List Expr} {a : Ex} {as : List Ex}
theorem sg_nil : PA X [] (SAs B []) := by
  refine pa_nil.imp fun σ H Q h => ?_
  obtain ⟨Z, E, Fs, xs, E', st, he, _, k⟩ := h
  simp only [eva, Option.some.injEq, Prod.mk.injEq] at he
  obtain ⟨rfl, rfl⟩ := he
  exact k [] H Z [] Fs ⟨st, Chg.refl _ _ _ _ _, trivial, by simpa using st.nd, fun _ m => (by simp at m), fun _ m => (by simp at m)⟩
theorem sg_cons (ha : PE X e (SE B a)) (hr : PA X es (SAs B as)) (hn : notIo a = true := by rfl) (hs : starEach (e :: es) X.env = (false, eval e X.env) :: starEach es X.env := by rfl) : PA X (e :: es) (SAs B (a :: as)) := by
  refine (pa_cons ha hr hs).imp fun σ H Q h => ?_
  obtain ⟨Z, E, Fs, xs, E', st, he, _, k⟩ := h
  obtain ⟨x, E1, ys, h1, h2, rfl⟩ := eva_cons hn he
  refine se_x ⟨Z, E, Fs, x, E1, st, h1, fun v H1 Z1 Fd Fs1 p => ⟨Z1, _, Fs1, ys, E', p.st, h2, eva_ios h2, fun vs H2 Z2 Fds Fs2 q => ?_⟩⟩
  refine k (v :: vs) H2 Z2 (Fd :: Fds) Fs2 ?_
  obtain ⟨_, kr⟩ := p.keep q.ch fun _ _ z => by cases z
  obtain ⟨a1, a2, a3⟩ := p.apart q.ch
  obtain ⟨nd, _, fd⟩ := p.ex rfl
  refine ⟨q.st, p.ch.trans q.ch, ⟨kr, q.val⟩, ?_, fun a ha => ?_, fun a ha => ?_⟩
  · rw [List.flatten_cons, List.append_assoc]
    refine List.nodup_append.mpr ⟨(List.nodup_append.mp nd).1, q.nd, fun a ha b hb => ?_⟩
    rintro rfl
    rcases List.mem_append.mp hb with z | z
    · exact a3 a ha (q.fd a z)
    · exact a1 a ha z
  · rw [List.flatten_cons] at ha
    rcases List.mem_append.mp ha with z | z
    · exact a2 a z
    · exact q.zf a z
  · rw [List.flatten_cons] at ha
    rcases List.mem_append.mp ha with z | z
    · exact (fd a z).imp id fun y => y.mono fun i hi => List.mem_append_left _ hi
    · rcases q.fd a z with y | y
      · exact .inl (p.ch.free y)
      · exact (p.ch.wc y).symm
theorem sg_io {i : Nat} {x : Str} (hN : X.N[i]? = some x) (hv : Vis X.env.scope x) (hr : PA X es (SAs B as)) (hd : (x == ("__debug__" : Str)) = false := by decide) (hcd : (x == ("__classdict__" : Str)) = false := by decide)
    (hs : starEach (.Name x p :: es) X.env = (false, eval (.Name x p) X.env) :: starEach es X.env := by rfl) : PA X (.Name x p :: es) (SAs B (.io i :: as)) := by
  refine (pa_cons (pe_var hN hv hd hcd) hr hs).imp fun σ H Q h => ?_
  obtain ⟨Z, E, Fs, ars, E', st, he, hio, k⟩ := h
  obtain ⟨x, r, hx, h1, rfl⟩ := eva_io he
  obtain ⟨v, hσ, ro⟩ := st.re.get hx
  cases v with
  | none => exact ro.elim
  | some v =>
    exact ⟨v, hσ, Z, E, Fs, r, E', st, h1, eva_ios h1, fun vs H' Z' Fds Fs' q => k (v :: vs) H' Z' ([] :: Fds) Fs' ⟨q.st, q.ch.mono fun j hj => List.mem_append_right _ hj, ⟨⟨hσ, rfl⟩, q.val⟩, by simpa using q.nd, fun a ha => q.zf a (by simpa using ha), fun a ha => (q.fd a (by simpa using ha)).imp id fun y => y.mono fun j hj => List.mem_append_right _ hj⟩⟩

theorem call_se {g : Nat} {E : XK} {σ H Q} (h : SE B (.call g as) σ H Q) : tCall (spV B.K B.FA (B.Φ g)) [] E (SAs B as) σ H Q := by
  obtain ⟨Z, En0, Fs, x, E', st, he, k⟩ := h
  simp only [ev, Option.bind_eq_bind, Option.bind_eq_some_iff, Prod.exists] at he
  obtain ⟨ars, E1, h1, he⟩ := he
  simp only [callG, Option.bind_eq_bind, Option.bind_eq_some_iff, Prod.exists] at he
  obtain ⟨xs, E2, h2, rd, rw', os, h3, he⟩ := he
  simp only [Option.some.injEq, Prod.mk.injEq] at he
  obtain ⟨rfl, rfl⟩ := he
  refine ⟨Z, En0, Fs, ars, E1, st, h1, eva_ios h1, fun vs H1 Z1 Fds Fs1 q => ?_⟩
  show spV B.K B.FA (B.Φ g) (vs ++ []) H1 Q E
  rw [List.append_nil]
  obtain ⟨Fall, Fs2, a1, a2, a3, a4, a5, a6⟩ := gat_R q.val q.st.re h2
  have nd2 : (Fall.flatten ++ Fs2.flatten).Nodup := a3.nodup_iff.mpr q.nd
  have io : ios ars = iosE as := eva_ios h1
  have iosub : ∀ i ∈ iosE as, i ∈ wrs as := by
    have : ∀ (l : List Ex), ∀ i ∈ iosE l, i ∈ wrs l := fun l => by
      induction l with
      | nil => intro i h; cases h
      | cons c l ih =>
        intro i h
        rw [show wrs (c :: l) = ((if isPl c then [root c] else []) ++ wr c) ++ wrs l by simp]
        cases hn : notIo c with
        | true =>
          rw [iosE_cons hn] at h
          exact List.mem_append_right _ (ih i h)
        | false =>
          cases c <;> simp [notIo] at hn
          rcases List.mem_cons.mp h with rfl | h
          · exact List.mem_append_left _ (by simp)
          · exact List.mem_append_right _ (ih i h)
    exact this as
  have mem1 : ∀ a ∈ Fall.flatten, a ∈ Fds.flatten ∨ WC Fs1 (wrs as) a := fun a ha => (a4 a ha).imp id fun y => y.mono fun i hi => iosub i (io ▸ hi)
  have zf1 : ∀ a ∈ Fall.flatten, Z1 a = none := fun a ha => by
    rcases a4 a ha with y | y
    · exact q.zf a y
    · exact q.st.zf a y.flat
  refine ⟨Z1, xs, Fall, (rd, rw'), os, q.st.sub, a1, (List.nodup_append.mp nd2).1, zf1, h3, fun v H2 Z2 Fd Fos c => ?_⟩
  -- the other slots stay
  have out2 : ∀ a ∈ Fs2.flatten, a ∉ Fall.flatten := fun a ha hb => (List.nodup_append.mp nd2).2.2 a hb a ha rfl
  have keep2 : ∀ a ∈ Fs2.flatten, H2 a = H1 a := fun a ha => by
    cases e : H1 a with
    | none => exact absurd e (a2.there ha)
    | some u => exact c.frame a u e (out2 a ha)
  have re2 := RE.keep c.le keep2 a2
  have nd3 : ((Fd ++ Fos.flatten) ++ Fs2.flatten).Nodup := by
    refine List.nodup_append.mpr ⟨c.nd, (List.nodup_append.mp nd2).2.1, fun a ha b hb => ?_⟩
    rintro rfl
    rcases c.fr a ha with y | y
    · exact out2 a hb y
    · exact a2.there hb y
  obtain ⟨Fs3, b1, b2, b3, b4⟩ := scat_R (L := Fd) q.val c.outs re2 (by rw [← List.append_assoc]; exact nd3)
  have z2 : ∀ a ∈ Fs2.flatten, Z2 a = none := fun a ha => by
    cases e : Z2 a with
    | none => rfl
    | some u =>
      obtain ⟨j, hj⟩ := of_flat ha
      rcases c.zn a u e with y | y | y
      · rw [q.st.zf a (mem_flat (a6 j a hj))] at y; cases y
      · exact absurd y (out2 a ha)
      · exact absurd y (a2.there ha)
  have zf3 : ∀ a ∈ Fs3.flatten, Z2 a = none := fun a ha => by
    obtain ⟨j, hj⟩ := of_flat ha
    rcases b3 j a hj with y | y
    · exact z2 a (mem_flat y)
    · exact c.zf a (List.mem_append_right _ y)
  have st3 : Stt B.K B.FA Z2 H2 (scat ars os E2) σ Fs3 := ⟨c.sub, b1, (List.nodup_append.mp b2).2.1, zf3⟩
  have wc1 : ∀ a, a ∈ Fall.flatten → H a = none ∨ WC Fs (wrs as) a := fun a ha => by
    rcases mem1 a ha with y | y
    · exact q.fd a y
    · rcases q.ch.wc y with z | z
      · exact .inr (z.mono fun i hi => (List.mem_append.mp hi).elim id id)
      · exact .inl z
  have ch3 : Chg (wrs as) Z H En0 Fs Z2 H2 (scat ars os E2) Fs3 := by
    refine ⟨q.ch.le.trans c.le, fun a u e => ?_, fun j a ha => ?_, fun a u e n => ?_, fun a h => c.there a (q.ch.there a h), fun j hj => ?_⟩
    · rcases c.zn a u e with y | y | y
      · exact q.ch.zn a u y
      · rcases wc1 a y with z | z
        · exact .inr (.inr z)
        · exact .inr (.inl z.flat)
      · exact .inr (.inr (q.ch.free y))
    · rcases b3 j a ha with y | y
      · exact q.ch.fr j a (a6 j a y)
      · rcases c.fr a (List.mem_append_right _ y) with z | z
        · exact .inr (wc1 a z)
        · exact .inr (.inl (q.ch.free z))
    · have e1 := q.ch.frame a u e n
      refine c.frame a u e1 fun z => ?_
      rcases wc1 a z with y | y
      · rw [y] at e; cases e
      · exact n y
    · have nj : j ∉ ios ars := fun z => hj (iosub j (io ▸ z))
      obtain ⟨c1, c2⟩ := b4 j nj
      obtain ⟨d1, d2⟩ := a5 j nj
      obtain ⟨e1, e2⟩ := q.ch.same j hj
      exact ⟨c2.trans (d2.trans e1), c1.trans (d1.trans e2)⟩
  refine k v H2 Z2 Fd Fs3 ⟨st3, ch3, c.val, fun _ => ⟨b2, fun a ha => c.zf a (List.mem_append_left _ ha), fun a ha => ?_⟩, fun _ _ z => (by simp [pr] at z)⟩
  rcases c.fr a (List.mem_append_left _ ha) with y | y
  · exact wc1 a y
  · exact .inl (q.ch.free y)
theorem sx_call {g : Nat} {n : Nat} {f : Addr} {fd : FuncData} {ps : List Str} {x : Str} (F : FnOk X.prog X.w X.K X.mg X.base CX0 n f fd ps (spV B.K B.FA (B.Φ g))) (hr : Room n X.A) (hg : Gl X x) (hm : X.mg x = some (.ref f)) (hk : PySem.W.keepIn X.K (.ref f) = true) (hb : Binds X.K fd ps [])
    (ha : PA X (e :: es) (SAs B as)) (hdb : (x == ("__debug__" : Str)) = false := by decide) (he : starEach (e :: es) X.env = (false, eval e X.env) :: starEach es X.env := by rfl) (hpl : (backTo pos (starEach es X.env)).any (·.1) = false := by rfl) :
    PE X (.Call (.Name x p) (e :: es) [] pos) (SE B (.call g as)) :=
  (pe_call F hr hg hm hk hb .nil (pass0 (X := X)) ha hdb he hpl).imp fun _ _ _ h => call_se h
end
end BS

set_option Elab.async false
set_option linter.all false
set_option maxRecDepth 100000
set_option maxHeartbeats 2000000
namespace BS
open PySem PySem.Spec PyProof.Rows L2

def Fr (d : Option Addr) (H : Hp) (Fs : List (List Addr)) : Prop := ∀ dx, d = some dx → H dx = none ∧ dx ∉ Fs.flatten
theorem Chg.fr' {w : List Nat} {Z H Z' H' : Hp} {E E' : En} {Fs Fs' F2 : List (List Addr)} {d : Option Addr} (c : Chg w Z H E Fs Z' H' E' Fs') (f : Fr d H' F2) : Fr d H F2 := fun dx e => ⟨c.free (f dx e).1, (f dx e).2⟩
def Lk (Z H H' : Hp) : Prop := ∀ a, H' a = H a ∨ ∃ u o, isDic u ∧ Z a = some u ∧ H a = some u ∧ H' a = some (.frz o u)
theorem Lk.refl {Z H : Hp} : Lk Z H H := fun _ => .inl rfl
def SPost (B : Bk) (s : Ss) (Z H : Hp) (E : En) (Fs : List (List Addr)) (σ : Sl) (D : Ends) : Out → Prop
  | .nx E' => ∀ σ' H' Z' Fs', Stt B.K B.FA Z' H' E' σ' Fs' → Chg (wrS s) Z H E Fs Z' H' E' Fs' → (∀ i, i ∉ asg s → σ'[i]? = σ[i]?) → D.nx σ' H'
  | .rt x E' => ∀ v σ' H' Z' Fd Fs', Pe B.K B.FA (wrS s) none Z H E Fs σ' x E' v Z' H' Fd Fs' → (∀ i, i ∉ asg s → σ'[i]? = σ[i]?) → D.rt v H'
  | .rs x E' => ∀ σ' H0 H' Z' Fs' cls d, Stt B.K B.FA Z' H0 E' σ' Fs' → Chg (wrS s) Z H E Fs Z' H0 E' Fs' → Lk Z' H0 H' → (∀ i, i ∉ asg s → σ'[i]? = σ[i]?) → ErrV B.K H' x cls d → Fr d H Fs' → B.W cls d σ' H'
def SS (B : Bk) (s : Ss) : TS := fun D σ H => ∃ Z E Fs o, Stt B.K B.FA Z H E σ Fs ∧ ex B.Φ s E = some o ∧ SPost B s Z H E Fs σ D o
section
variable {X : Cx} {B : Bk} {pos p : Pos} {st : Stmt} {rest : List Stmt} {a b : Ss} {ee ek : Expr} {e k c : Ex}
theorem ss_nil : PSs X [] (SS B .skip) := by
  refine pss_nil.imp fun D σ H h => ?_
  obtain ⟨Z, E, Fs, o, s, he, q⟩ := h
  simp only [ex, Option.some.injEq] at he
  subst he
  exact q σ H Z Fs s (Chg.refl _ _ _ _ _) fun _ _ => rfl
theorem ss_one (h : PS X st (SS B a)) : PSs X [st] (SS B a) := pss_one h
theorem seq_ss {D : Ends} {σ : Sl} {H : Hp} (h : SS B (.seq a b) D σ H) : SS B a { D with nx := SS B b D } σ H := by
  obtain ⟨Z, E, Fs, o, s, he, q⟩ := h
  simp only [ex] at he
  cases ea : ex B.Φ a E with
  | none => rw [ea] at he; cases he
  | some o1 =>
    rw [ea] at he
    refine ⟨Z, E, Fs, o1, s, ea, ?_⟩
    cases o1 with
    | rt x E1 =>
      simp only [Option.some.injEq] at he
      subst he
      intro v σ' H' Z' Fd Fs' p hs
      refine q v σ' H' Z' Fd Fs' (p.mono fun i hi => ?_) fun i hi => hs i fun z => hi ?_
      · simp only [wrS, List.mem_append]; exact .inl hi
      · simp only [asg, List.mem_append]; exact .inl z
    | rs x E1 =>
      simp only [Option.some.injEq] at he
      subst he
      intro σ' H0 H' Z' Fs' cls d s' c' lk hs v fr
      refine q σ' H0 H' Z' Fs' cls d s' (c'.mono fun i hi => ?_) lk (fun i hi => hs i fun z => hi ?_) v fr
      · simp only [wrS, List.mem_append]; exact .inl hi
      · simp only [asg, List.mem_append]; exact .inl z
    | nx E1 =>
      intro σ1 H1 Z1 Fs1 s1 c1 g1
      refine ⟨Z1, E1, Fs1, o, s1, he, ?_⟩
      cases o with
      | nx E2 =>
        intro σ2 H2 Z2 Fs2 s2 c2 g2
        refine q σ2 H2 Z2 Fs2 s2 (c1.trans c2) fun i hi => ?_
        simp only [asg, List.mem_append, not_or] at hi
        exact (g2 i hi.2).trans (g1 i hi.1)
      | rs x E2 =>
        intro σ2 H0 H2 Z2 Fs2 cls d s2 c2 lk g2 v fr
        refine q σ2 H0 H2 Z2 Fs2 cls d s2 (c1.trans c2) lk (fun i hi => ?_) v (c1.fr' fr)
        simp only [asg, List.mem_append, not_or] at hi
        exact (g2 i hi.2).trans (g1 i hi.1)
      | rt x E2 =>
        intro v σ2 H2 Z2 Fd Fs2 p g2
        refine q v σ2 H2 Z2 Fd Fs2 ⟨p.st, c1.trans p.ch, p.val, fun e => ?_, fun _ _ z => (by cases z)⟩ fun i hi => ?_
        · obtain ⟨n1, n2, n3⟩ := p.ex e
          refine ⟨n1, n2, fun z hz => ?_⟩
          rcases n3 z hz with y | y
          · exact .inl (c1.free y)
          · exact (c1.wc y).symm
        · simp only [asg, List.mem_append, not_or] at hi
          exact (g2 i hi.2).trans (g1 i hi.1)
theorem ss_cons (h1 : PS X st (SS B a)) (h2 : PSs X rest (SS B b)) : PSs X (st :: rest) (SS B (.seq a b)) := (pss_cons h1 h2).imp fun _ _ _ => seq_ss

def gNs : List Nat → TGs
  | [] => gNil
  | i :: is => gCons (gName i) (gNs is)
def tgT (K : PySem.W.Frag) : Tg → TG
  | .v i => gName i
  | .t is => fun v σ H Q => gTup K is.length (gNs is) v σ H Q ∨ gLst K is.length (gNs is) v σ H Q
theorem set_at {K : PySem.W.Frag} {FA : Nat → Addr → Prop} {Z H : Hp} {E : En} {σ : Sl} {Fs : List (List Addr)} {i : Nat} {x : Val} {v : V} {F L : List Addr} (st : Stt K FA Z H E σ Fs) (r : R K FA Z H x.2 x.1 v F) (nd : ((F ++ L) ++ Fs.flatten).Nodup) (zf : ∀ a ∈ F, Z a = none) :
    Stt K FA Z H (E.set i (some x)) (σ.set i (some v)) (Fs.set i F) ∧ (L ++ (Fs.set i F).flatten).Nodup := by
  have re := st.re.set (i := i) (x := some x) (v := some v) (F := F) r
  have hn : (L ++ (Fs.set i F).flatten).Nodup := by
    by_cases h : i < Fs.length
    · have e : (L ++ (Fs.set i F).flatten).Perm ((F ++ L) ++ (Fs.set i []).flatten) := by
        refine (List.Perm.append_left L (set_perm h)).trans ?_
        rw [← List.append_assoc]
        exact List.Perm.append_right _ List.perm_append_comm
      exact e.nodup_iff.mpr (nd.sublist (List.Sublist.append_left unset_sub _))
    · rw [List.set_eq_of_length_le (by simpa using h)]
      refine nd.sublist ?_
      rw [List.append_assoc]
      exact List.sublist_append_right _ _
  refine ⟨⟨st.sub, re, (List.nodup_append.mp hn).2.1, fun a ha => ?_⟩, hn⟩
  obtain ⟨j, hj⟩ := of_flat ha
  rcases getD_set hj with ⟨_, z⟩ | ⟨_, z⟩
  · exact zf a z
  · exact st.zf a (mem_flat z)
theorem binds_ok {K : PySem.W.Frag} {FA : Nat → Addr → Prop} {Z H : Hp} {w : Ow} : ∀ {is : List Nat} {ds : List D} {vs : List V} {F : List Addr} {E E2 : En} {σ : Sl} {Fs : List (List Addr)} {Q : Sl → Hp → Prop}, binds is ds w E = some E2 → Rs K FA Z H w ds vs F → Stt K FA Z H E σ Fs → (F ++ Fs.flatten).Nodup → (∀ a ∈ F, Z a = none) →
    (∀ σ' Fs', Stt K FA Z H E2 σ' Fs' → (∀ j, j ∉ is → σ'[j]? = σ[j]? ∧ E2[j]? = E[j]? ∧ Fs'.getD j [] = Fs.getD j []) → (∀ j a, a ∈ Fs'.getD j [] → a ∈ F ∨ a ∈ Fs.getD j []) → Q σ' H) → gNs is vs σ H Q
  | [], [], vs, F, E, E2, σ, Fs, Q, hb, hr, st, nd, zf, k => by
    simp only [binds, Option.some.injEq] at hb
    subst hb
    exact ⟨hr.1, k σ Fs st (fun _ _ => ⟨rfl, rfl, rfl⟩) fun _ _ h => .inr h⟩
  | i :: is, d :: ds, vs, F, E, E2, σ, Fs, Q, hb, hr, st, nd, zf, k => by
    obtain ⟨v, us, A, C, e0, h1, h2, e⟩ := hr
    subst e0
    subst e
    simp only [binds] at hb
    obtain ⟨s1, n1⟩ := set_at (i := i) (L := C) st (R_vl h1) nd fun a ha => zf a (List.mem_append_left _ ha)
    refine ⟨v, us, rfl, binds_ok hb h2 s1 n1 (fun a ha => zf a (List.mem_append_right _ ha)) fun σ' Fs' s' g1 g2 => k σ' Fs' s' (fun j hj => ?_) fun j a ha => ?_⟩
    · have n1 : i ≠ j := fun z => hj (by rw [z]; exact List.mem_cons_self)
      obtain ⟨x1, x2, x3⟩ := g1 j fun z => hj (List.mem_cons_of_mem _ z)
      rw [x1, x2, x3, List.getElem?_set_ne n1, List.getElem?_set_ne n1, getD_set_ne n1]
      exact ⟨rfl, rfl, rfl⟩
    · rcases g2 j a ha with y | y
      · exact .inl (List.mem_append_right _ y)
      · rcases getD_set y with ⟨_, z⟩ | ⟨_, z⟩
        · exact .inl (List.mem_append_left _ z)
        · exact .inr z
  | [], _ :: _, _, _, _, _, _, _, _, hb, _, _, _, _, _ => by simp [binds] at hb
  | _ :: _, [], _, _, _, _, _, _, _, hb, _, _, _, _, _ => by simp [binds] at hb

theorem bind_ok {K : PySem.W.Frag} {FA : Nat → Addr → Prop} {Z H Z0 H0 : Hp} {w0 : List Nat} {E0 E E2 : En} {σ : Sl} {Fs0 Fs : List (List Addr)} {tg : Tg} {x : Val} {v : V} {Fd : List Addr} {Q : Sl → Hp → Prop} (p : Pe K FA w0 none Z0 H0 E0 Fs0 σ x E v Z H Fd Fs) (hb : bindT tg x E = some E2)
    (k : ∀ σ' Fs', Stt K FA Z H E2 σ' Fs' → Chg (tgs tg ++ w0) Z0 H0 E0 Fs0 Z H E2 Fs' → (∀ i, i ∉ tgs tg → σ'[i]? = σ[i]?) → Q σ' H) : tgT K tg v σ H Q := by
  obtain ⟨nd, zf, fd⟩ := p.ex rfl
  have fin : ∀ σ' Fs', Stt K FA Z H E2 σ' Fs' → (∀ j, j ∉ tgs tg → σ'[j]? = σ[j]? ∧ E2[j]? = E[j]? ∧ Fs'.getD j [] = Fs.getD j []) → (∀ j a, a ∈ Fs'.getD j [] → a ∈ Fd ∨ a ∈ Fs.getD j []) → Q σ' H := fun σ' Fs' s g1 g2 => by
    refine k σ' Fs' s ⟨p.ch.le, p.ch.zn, fun j a ha => ?_, fun a u h n => p.ch.frame a u h fun z => n (z.mono fun i hi => List.mem_append_right _ hi), p.ch.there, fun j hj => ?_⟩ fun i hi => (g1 i hi).1
    · rcases g2 j a ha with y | y
      · exact .inr ((fd a y).imp id fun z => z.mono fun i hi => List.mem_append_right _ hi)
      · exact (p.ch.fr j a y).imp id (Or.imp id fun z => z.mono fun i hi => List.mem_append_right _ hi)
    · obtain ⟨x1, x2, x3⟩ := g1 j fun z => hj (List.mem_append_left _ z)
      obtain ⟨y1, y2⟩ := p.ch.same j fun z => hj (List.mem_append_right _ z)
      exact ⟨x2.trans y1, x3.trans y2⟩
  cases tg with
  | v i =>
    simp only [bindT, Option.some.injEq] at hb
    subst hb
    obtain ⟨s1, _⟩ := set_at (i := i) (L := []) p.st p.val (by simpa using nd) zf
    refine fin _ _ s1 (fun j hj => ?_) fun j a ha => ?_
    · have n1 : i ≠ j := fun z => hj (by simp [z])
      rw [List.getElem?_set_ne n1, List.getElem?_set_ne n1, getD_set_ne n1]
      exact ⟨rfl, rfl, rfl⟩
    · rcases getD_set ha with ⟨_, z⟩ | ⟨_, z⟩
      · exact .inl z
      · exact .inr z
  | t is =>
    obtain ⟨xd, xw⟩ := x
    cases xd with
    | tup ds =>
      simp only [bindT] at hb
      split at hb
      · rename_i hl
        obtain ⟨t, vs, rfl, hq, hr⟩ := p.val
        exact .inl ⟨t, vs, rfl, SqT.of (tup_sub p.st.sub hq), by rw [Rs_len hr, hl], binds_ok hb hr p.st nd zf fin⟩
      · cases hb
    | lst ds =>
      simp only [bindT] at hb
      split at hb
      · rename_i hl
        obtain ⟨q, vs, G, rfl, hq, hr, ef⟩ := p.val
        have hG : ∀ a ∈ G, a ∈ Fd := fun a ha => by
          rw [ef]
          cases xw
          · exact ha
          · exact List.mem_cons_of_mem _ ha
          · exact List.mem_cons_of_mem _ ha
        have nG : (G ++ Fs.flatten).Nodup := by
          refine nd.sublist (List.Sublist.append_right ?_ _)
          rw [ef]
          cases xw
          · exact List.Sublist.refl _
          · exact List.sublist_cons_self _ _
          · exact List.sublist_cons_self _ _
        exact .inr ⟨q, vs, rfl, LAt.sub p.st.sub hq, by rw [Rs_len hr, hl], binds_ok hb hr p.st nG (fun a ha => zf a (hG a ha)) fun σ' Fs' s g1 g2 => fin σ' Fs' s g1 fun j a h => (g2 j a h).imp (hG a) id⟩
      · cases hb
    | _ => simp [bindT] at hb
theorem set_ss {tg : Tg} {D : Ends} {σ : Sl} {H : Hp} (h : SS B (.set tg e) D σ H) : tAsg (SE B e) (tgT B.K tg) D σ H := by
  obtain ⟨Z, E, Fs, o, s, he, q⟩ := h
  simp only [ex, Option.bind_eq_bind, Option.bind_eq_some_iff, Prod.exists] at he
  obtain ⟨xd, xw, E1, h1, E2, h2, h3⟩ := he
  simp only [Option.some.injEq] at h3
  subst h3
  refine se_x ⟨Z, E, Fs, (xd, xw), E1, s, h1, fun v H1 Z1 Fd Fs1 p => ?_⟩
  refine bind_ok p h2 fun σ' Fs' s' c' g => q σ' H1 Z1 Fs' s' (c'.mono fun i hi => ?_) g
  simpa only [wrS] using hi
theorem pg_v {i : Nat} {x : Str} (hN : X.N.Nodup) (hi : X.N[i]? = some x) (hx : Loc X.env.scope x) (hf : X.fn x = true ∨ X.env.scope.names.lookup x = some .local) : PG X (.Name x pos) (tgT B.K (.v i)) := pg_name hN hi hx hf
theorem pgs_n : PGs X [] (gNs []) := pgs_nil
theorem pgs_v {i : Nat} {is : List Nat} {x : Str} {es : List Expr} (hN : X.N.Nodup) (hi : X.N[i]? = some x) (hx : Loc X.env.scope x) (hf : X.fn x = true ∨ X.env.scope.names.lookup x = some .local) (hr : PGs X es (gNs is))
    (hs : (assignEach (.Name x pos :: es) X.env).map (·.2) = assign (.Name x pos) X.env :: (assignEach es X.env).map (·.2) := by rfl) : PGs X (.Name x pos :: es) (gNs (i :: is)) := pgs_cons (pg_name hN hi hx hf) hr hs
theorem pg_t {is : List Nat} {es : List Expr} {kk : Nat} (hc : X.calm = true) (h : PGs X es (gNs is)) (hK : X.K = B.K := by rfl) (hn : (assignEach es X.env).length = is.length := by rfl) (hst : (assignEach es X.env).findIdx? (·.1) = none := by rfl) : PG X (.Tuple es kk pos) (tgT B.K (.t is)) :=
  hK ▸ ⟨fun pins s σ H v u Q I r hw => hw.elim ((pg_tup hc h hn hst).run pins s σ H v u Q I r) ((pg_lst hc h hn hst).run pins s σ H v u Q I r)⟩

theorem ss_set {i : Nat} {x : Str} {pos' : Pos} (hN : X.N.Nodup) (hi : X.N[i]? = some x) (hx : Loc X.env.scope x) (hf : X.fn x = true ∨ X.env.scope.names.lookup x = some .local) (he : PE X ee (SE B e)) (hs : swapsWith ee (some (.Name x pos')) pos.line X.env = pure false := by rfl) :
    PS X (.Assign [.Name x pos'] ee pos) (SS B (.set (.v i) e)) := (ps_set hN hi hx he hs hf).imp fun _ _ _ h => set_ss h

theorem ss_setT {tgt : Expr} {is : List Nat} (he : PE X ee (SE B e)) (hg : PG X tgt (tgT B.K (.t is))) (hs : swapsWithSole [tgt] ee pos.line X.env = pure false := by rfl) (hw : swappedStores [tgt] ee X.env = pure none := by rfl)
    (h1 : (assignEach [tgt] X.env).map (·.2) = [assign tgt X.env] := by rfl) : PS X (.Assign [tgt] ee pos) (SS B (.set (.t is) e)) := (ps_asg he hg hs hw h1).imp fun _ _ _ h => set_ss h

def notVar : Ex → Bool
  | .var _ => false
  | _ => true
theorem ss_ret (he : PE X ee (SE B e)) : PS X (.Return (some ee) pos) (SS B (.ret e)) := by
  refine (ps_ret he).imp fun D σ H h => ?_
  obtain ⟨Z, E, Fs, o, s, he, q⟩ := h
  cases hn : notVar e with
  | true =>
    have e1 : ∃ x E1, ev B.Φ e E = some (x, E1) ∧ o = .rt (esc e x E1).1 (esc e x E1).2 := by
      cases e <;> first | (simp [notVar] at hn; done) | (simp only [ex, Option.bind_eq_bind, Option.bind_eq_some_iff, Prod.exists] at he; obtain ⟨xd, xw, E1, h1, h3⟩ := he; simp only [Option.some.injEq] at h3; exact ⟨(xd, xw), E1, h1, h3.symm⟩)
    obtain ⟨x, E1, h1, rfl⟩ := e1
    exact se_x ⟨Z, E, Fs, x, E1, s, h1, fun v H1 Z1 Fd Fs1 p => q v σ H1 Z1 Fd Fs1 p fun _ _ => rfl⟩
  | false =>
    obtain ⟨i, rfl⟩ : ∃ i, e = .var i := by cases e <;> first | exact ⟨_, rfl⟩ | simp [notVar] at hn
    simp only [ex] at he
    cases hx : E[i]? with
    | none => rw [hx] at he; cases he
    | some oo =>
      rw [hx] at he
      cases oo with
      | none => cases he
      | some x =>
        simp only [Option.some.injEq] at he
        subst he
        refine ⟨Z, E, Fs, x, E, s, by simp [ev, hx], fun v H1 Z1 Fd Fs1 p => ?_⟩
        cases hp : plain x.1 with
        | true =>
          rw [hp] at q
          simp only [if_true] at q
          refine q v σ H1 Z1 [] Fs1 ?_ fun _ _ => rfl
          have hr := (R_plain _ hp p.val).2
          refine ⟨p.st, p.ch.mono fun j hj => (by simp [wr] at hj), hr _ _, fun _ => ⟨by simpa using p.st.nd, fun _ m => (by cases m), fun _ m => (by cases m)⟩, fun _ _ z => (by cases z)⟩
        | false =>
          rw [hp] at q
          simp only [Bool.false_eq_true, if_false] at q
          obtain ⟨_, pl2⟩ := p.pl i false (by simp [pr, isIx])
          obtain ⟨pe1, pe2⟩ := pl2 rfl
          -- the slot's value is handed out
          have ei := getD_eq_of pe1 (by simp)
          obtain ⟨v', hv', ro⟩ := p.st.re.get ei
          have re' := p.st.re.turn hv' (show RO B.K B.FA Z1 H1 none v' [] from rfl)
          have nd0 : (Fd ++ (Fs1.set i []).flatten).Nodup := by
            have e := self_perm (Fs := Fs1) (i := i)
            rw [pe2] at e
            exact e.nodup_iff.mp p.st.nd
          refine q v σ H1 Z1 Fd (Fs1.set i []) ⟨⟨p.st.sub, re', (List.nodup_append.mp nd0).2.1, fun a ha => p.st.zf a (mem_unset ha)⟩, ?_, p.val, fun _ => ⟨nd0, fun a ha => p.st.zf a (mem_flat (i := i) (by rw [pe2]; exact ha)), fun a ha => ?_⟩, fun _ _ z => (by cases z)⟩ fun _ _ => rfl
          · refine ⟨p.ch.le, p.ch.zn, fun j a ha => ?_, fun a u h n => p.ch.frame a u h fun z => n (z.mono fun j hj => by simp [wr] at hj), p.ch.there, fun j hj => ?_⟩
            · rcases getD_set ha with ⟨_, z⟩ | ⟨_, z⟩
              · cases z
              · exact (p.ch.fr j a z).imp id (Or.imp id fun y => y.mono fun j hj => by simp [wr] at hj)
            · have n1 : i ≠ j := fun z => hj (by simp [z])
              obtain ⟨x1, x2⟩ := p.ch.same j (by simp [wr])
              rw [List.getElem?_set_ne n1, getD_set_ne n1]
              exact ⟨rfl, x2⟩
          · have := p.ch.fr i a (by rw [pe2]; exact ha)
            rcases this with y | y | y
            · exact .inr ⟨i, by simp, y⟩
            · exact .inl y
            · exact .inr (y.mono fun j hj => by simp [wr] at hj)
theorem ss_if {th el : List Stmt} (hc : PT X ee (ST B c)) (ha : PSs X th (SS B a)) (hb : PSs X el (SS B b)) : PS X (.If ee th el pos) (SS B (.ite c a b)) := by
  refine (ps_if hc ha hb).imp fun D σ H h => ?_
  obtain ⟨Z, E, Fs, o, s, he, q⟩ := h
  simp only [ex, Option.bind_eq_bind, Option.bind_eq_some_iff, Prod.exists] at he
  obtain ⟨xd, xw, E1, h1, he⟩ := he
  have fin : ∀ (s' : Ss), (∀ i, i ∈ wr c ++ wrS s' → i ∈ wrS (.ite c a b)) → (∀ i, i ∈ asg s' → i ∈ asg (.ite c a b)) → ∀ H1 Z1 Fs1, Stt B.K B.FA Z1 H1 E1 σ Fs1 → Chg (wr c) Z H E Fs Z1 H1 E1 Fs1 → ex B.Φ s' E1 = some o → SS B s' D σ H1 := fun s' hw hs H1 Z1 Fs1 s1 c1 e1 => by
    refine ⟨Z1, E1, Fs1, o, s1, e1, ?_⟩
    cases o with
    | nx E2 =>
      intro σ2 H2 Z2 Fs2 s2 c2 g2
      exact q σ2 H2 Z2 Fs2 s2 ((c1.trans c2).mono hw) fun i hi => g2 i fun z => hi (hs i z)
    | rs x E2 =>
      intro σ2 H0 H2 Z2 Fs2 cls d s2 c2 lk g2 v fr
      exact q σ2 H0 H2 Z2 Fs2 cls d s2 ((c1.trans c2).mono hw) lk (fun i hi => g2 i fun z => hi (hs i z)) v (c1.fr' fr)
    | rt x E2 =>
      intro v σ2 H2 Z2 Fd Fs2 p g2
      refine q v σ2 H2 Z2 Fd Fs2 ⟨p.st, (c1.trans p.ch).mono hw, p.val, fun e => ?_, fun _ _ z => (by cases z)⟩ fun i hi => g2 i fun z => hi (hs i z)
      obtain ⟨n1, n2, n3⟩ := p.ex e
      refine ⟨n1, n2, fun z hz => ?_⟩
      rcases n3 z hz with y | y
      · exact .inl (c1.free y)
      · exact ((c1.wc y).imp (fun w => w.mono hw) id).symm
  cases xd with
  | bl kk =>
    refine ⟨Z, E, Fs, kk, xw, E1, s, h1, fun H1 Z1 Fs1 s1 c1 => ?_⟩
    cases kk with
    | true =>
      simp only [if_true]
      refine fin a (fun i hi => ?_) (fun i hi => ?_) H1 Z1 Fs1 s1 c1 he
      · simp only [wrS, List.mem_append] at hi ⊢
        exact hi.imp id .inl
      · simp only [asg, List.mem_append]; exact .inl hi
    | false =>
      simp only [Bool.false_eq_true, if_false]
      refine fin b (fun i hi => ?_) (fun i hi => ?_) H1 Z1 Fs1 s1 c1 he
      · simp only [wrS, List.mem_append] at hi ⊢
        exact hi.imp id .inr
      · simp only [asg, List.mem_append]; exact .inr hi
  | _ => cases he
end
end BS

set_option Elab.async false
set_option linter.all false
set_option maxRecDepth 100000
set_option maxHeartbeats 2000000
namespace BS
open PySem PySem.Spec PyProof.Rows L2
section
variable {K : PySem.W.Frag} {FA : Nat → Addr → Prop} {Z Z' H H' : Hp}

structure Items (K : PySem.W.Frag) (FA : Nat → Addr → Prop) (Z1 : Hp) (ys : List D) (vs : List V) : Prop where
  len : vs.length = ys.length
  itm : ∀ (j : Nat) (d : D), ys[j]? = some d → ∃ v, vs[j]? = some v ∧ ∀ Z' H', Le Z1 Z' → R K FA Z' H' (shv d).2 (shv d).1 v []
structure SrcL (K : PySem.W.Frag) (FA : Nat → Addr → Prop) (w : List Nat) (Z1 H1 : Hp) (E1 : En) (Fs1 : List (List Addr)) (ys : List D) (p : Addr) (vs : List V) : Prop where
  it : Items K FA Z1 ys vs
  stand : ∀ {H' Z' E' Fs'}, Chg w Z1 H1 E1 Fs1 Z' H' E' Fs' → Sub Z' H' → H' p = some (.lst vs)
theorem Items.sh {ys : List D} {vs : List V} {G : List Addr} (h : Rs K FA Z H .sh ys vs G) : Items K FA Z ys vs := by
  refine ⟨Rs_len h, fun j d e => ?_⟩
  obtain ⟨v, F', e1, r, _⟩ := Rs_get h e
  have e0 := R_sh _ r
  subst e0
  refine ⟨v, e1, fun Z' H' le => ?_⟩
  exact R_vl (R_keep (H := H') le _ (fun _ m => (by cases m)) (R_share (H' := H') (Le.refl Z) _ (fun _ m => (by cases m)) r))
theorem Items.plain {ys : List D} {vs : List V} {w : Ow} {G : List Addr} (hp : plains ys = true) (h : Rs K FA Z H w ys vs G) : Items K FA Z ys vs := Items.sh ((Rs_plain ys hp h).2 .sh H)
theorem evit1 {Φ : Phi} {w : List Nat} {e : Ex} {E E' : En} {xs : List Val} (h : evit Φ w [e] E = some (xs, E')) : ∃ x E1, ev Φ e E = some (x, E1) ∧
    ((isPl e = true ∧ kplain x.1 = true ∧ isDicD x.1 = false ∧ root e ∉ w ∧ xs = [x] ∧ E' = E1) ∨ (xs = [(esc e x E1).1] ∧ E' = (esc e x E1).2)) := by
  simp only [evit, Option.bind_eq_bind, Option.bind_eq_some_iff, Prod.exists] at h
  obtain ⟨xd, xw, E1, h1, ys, E2, h2, h3⟩ := h
  simp only [Option.some.injEq, Prod.mk.injEq] at h2 h3
  obtain ⟨rfl, rfl⟩ := h2
  obtain ⟨rfl, rfl⟩ := h3
  refine ⟨(xd, xw), E1, h1, ?_⟩
  cases hc : (isPl e && kplain xd && !isDicD xd && !w.contains (root e)) with
  | true =>
    simp only [Bool.and_eq_true, Bool.not_eq_true', List.contains_eq_mem, decide_eq_false_iff_not] at hc
    exact .inl ⟨hc.1.1.1, hc.1.1.2, hc.1.2, hc.2, by simp, by simp⟩
  | false => exact .inr ⟨by simp, by simp⟩
theorem Pe.src {w0 w : List Nat} {e : Ex} {Z1 H1 : Hp} {E E1 E' : En} {Fs Fs1 : List (List Addr)} {σ : Sl} {x : Val} {v : V} {Fd : List Addr} {xs : List Val}
    (p : Pe K FA w0 (pr e) Z H E Fs σ x E1 v Z1 H1 Fd Fs1)
    (hc : (isPl e = true ∧ kplain x.1 = true ∧ isDicD x.1 = false ∧ root e ∉ w ∧ xs = [x] ∧ E' = E1) ∨ (xs = [(BS.esc e x E1).1] ∧ E' = (BS.esc e x E1).2)) :
    ∃ Z2 Fs2, Stt K FA Z2 H1 E' σ Fs2 ∧ Chg ((if isPl e then [root e] else []) ++ w0) Z H E Fs Z2 H1 E' Fs2 ∧ ds xs = [x.1] ∧
      (∀ ys, x.1 = .lst ys → ∃ q vs, v = .ref q ∧ SrcL K FA w Z2 H1 E' Fs2 ys q vs) ∧
      (∀ ys, x.1 = .tup ys → ∃ q vs, v = .ref q ∧ Z2 q = some (.tup vs) ∧ Items K FA Z2 ys vs) ∧
      (∀ s, x.1 = .str s → v = .str s ∧ s.length ≤ line ∧ PyData.strOk s = true) ∧
      ∀ t kvs, x.1 = .dic t kvs → R K FA Z2 H1 .sh (.dic t kvs) v [] := by
  rcases hc with ⟨hp, hk, hd, hr, rfl, rfl⟩ | ⟨rfl, rfl⟩
  · have epr : pr e = some (root e, isIx e) := by simp [pr, hp]
    refine ⟨Z1, Fs1, p.st, p.ch.mono fun i hi => List.mem_append_right _ hi, rfl, fun ys hy => ?_, fun ys hy => ?_, fun s hs => ?_, fun t kvs ht => ?_⟩
    · obtain ⟨xd, xw⟩ := x
      simp only at hy
      subst hy
      rw [kplain_lst] at hk
      obtain ⟨q, vs, G, rfl, hq, hr', ef⟩ := p.val
      refine ⟨q, vs, rfl, Items.plain hk hr', fun {H' Z' E2 Fs2} c s => ?_⟩
      have own' : xw ≠ .sh → H1 q = some (.lst vs) → H' q = some (.lst vs) := fun hw hq => by
        have hm : q ∈ Fd := by
          rw [ef]
          cases xw
          · exact absurd rfl hw
          · exact List.mem_cons_self
          · exact List.mem_cons_self
        refine c.frame q _ hq fun ⟨j, hj, hjm⟩ => ?_
        have := flat_inj p.st.nd (inn_sub ((p.pl _ _ epr).1 q hm)) hjm
        exact hr (this ▸ hj)
      cases xw with
      | sh =>
        rcases s q _ (c.le q _ hq) with y | ⟨y, _⟩
        · exact y
        · exact y.elim
      | top => exact own' (by decide) hq
      | deep => exact own' (by decide) hq
    · obtain ⟨xd, xw⟩ := x
      simp only at hy
      subst hy
      rw [kplain_tup] at hk
      obtain ⟨q, vs, rfl, hq, hr'⟩ := p.val
      exact ⟨q, vs, rfl, hq, Items.plain hk hr'⟩
    · obtain ⟨xd, xw⟩ := x
      simp only at hs
      subst hs
      exact p.val.1
    · rw [ht] at hd
      cases hd
  · obtain ⟨Z2, Fd2, Fs2, q⟩ := p.esc
    obtain ⟨nd, zf, fd⟩ := q.ex rfl
    have out : ∀ a ∈ Fd2, a ∉ Fs2.flatten := fun a ha hb => (List.nodup_append.mp nd).2.2 a ha a hb rfl
    have st' := q.st.zadd zf out
    have ch' := q.ch.zadd zf fd
    have r' : R K FA (zadd Z2 H1 Fd2) H1 .sh (BS.esc e x E1).1.1 v [] := R_share (zadd_le zf) _ (fun a ha => zadd_in ha) q.val
    have ec : (BS.esc e x E1).1.1 = x.1 := by unfold BS.esc; split <;> rfl
    rw [ec] at r'
    refine ⟨zadd Z2 H1 Fd2, Fs2, st', ch', by simp [ds, ec], fun ys hy => ?_, fun ys hy => ?_, fun s hs => ?_, fun t kvs ht => ?_⟩
    · rw [hy] at r'
      obtain ⟨q', vs, G, rfl, hq, hr', ef⟩ := r'
      refine ⟨q', vs, rfl, Items.sh hr', fun {H' Z' E2 Fs2} c s => ?_⟩
      rcases s q' _ (c.le q' _ hq) with y | ⟨y, _⟩
      · exact y
      · exact y.elim
    · rw [hy] at r'
      obtain ⟨q', vs, rfl, hq, hr'⟩ := r'
      exact ⟨q', vs, rfl, hq, Items.sh hr'⟩
    · rw [hs] at r'
      exact r'.1
    · rw [ht] at r'
      exact r'
end

section
variable {B : Bk}

def PostW (B : Bk) (w a : List Nat) (Z H : Hp) (E : En) (Fs : List (List Addr)) (σ : Sl) (D : Ends) : Out → Prop
  | .nx E' => ∀ σ' H' Z' Fs', Stt B.K B.FA Z' H' E' σ' Fs' → Chg w Z H E Fs Z' H' E' Fs' → (∀ i, i ∉ a → σ'[i]? = σ[i]?) → D.nx σ' H'
  | .rt x E' => ∀ v σ' H' Z' Fd Fs', Pe B.K B.FA w none Z H E Fs σ' x E' v Z' H' Fd Fs' → (∀ i, i ∉ a → σ'[i]? = σ[i]?) → D.rt v H'
  | .rs x E' => ∀ σ' H0 H' Z' Fs' cls d, Stt B.K B.FA Z' H0 E' σ' Fs' → Chg w Z H E Fs Z' H0 E' Fs' → Lk Z' H0 H' → (∀ i, i ∉ a → σ'[i]? = σ[i]?) → ErrV B.K H' x cls d → Fr d H Fs' → B.W cls d σ' H'

def Yld (K : PySem.W.Frag) (FA : Nat → Addr → Prop) (its : List D) (Z1 : Hp) (G : Hp → Prop) (Y : Nat → Hp → V → Hp → Prop) : Prop :=
  ∀ (i : Nat) (d : D) (x : V) (H H' Z : Hp), its[i]? = some d → Le Z1 Z → G H → Y i H x H' → ∀ E σ Fs, Stt K FA Z H E σ Fs → ∃ Zn, Stt K FA Zn H' E σ Fs ∧ Chg [] Z H E Fs Zn H' E Fs ∧ R K FA Zn H' (shv d).2 (shv d).1 x []
theorem for_se {J : It} {n : Nat} {G : Hp → Prop} {Y : Nat → Hp → V → Hp → Prop} (w : Walk J n G Y) {tg : Tg} {b : Ss} {its : List D} {Z1 H1 : Hp} {E1 : En} {σ : Sl} {Fs1 : List (List Addr)} {o : Out} {D : Ends}
    (st : Stt B.K B.FA Z1 H1 E1 σ Fs1) (hn : n = its.length) (he : forL (fun x E => do let E ← bindT tg x E; ex B.Φ b E) its E1 = some o)
    (hG : ∀ {H' Z' E' Fs'}, Chg (tgs tg ++ wrS b) Z1 H1 E1 Fs1 Z' H' E' Fs' → Sub Z' H' → G H') (hY : Yld B.K B.FA its Z1 G Y)
    (q : PostW B (tgs tg ++ wrS b) (tgs tg ++ asg b) Z1 H1 E1 Fs1 σ D o) :
    ∃ W : Nat → Nat → L2.St → Hp → Prop, (∃ m, W 0 m σ H1) ∧ ∀ i m σ H, W i m σ H →
      (J.stop i H ∧ D.nx σ H) ∨ (J.go i H ∧ ∃ N : L2.St → Hp → Prop, (∀ σ' H', N σ' H' → ∃ m', m' < m ∧ W (i + 1) m' σ' H') ∧ ∀ x H', J.yld i H x H' → tgT B.K tg x σ H' fun σ2 H2 => SS B b { D with nx := N, ct := N, bk := D.nx } σ2 H2) := by
  subst hn
  refine for_it w (fun i σ' H' => ∃ Z' E' Fs', Stt B.K B.FA Z' H' E' σ' Fs' ∧ Chg (tgs tg ++ wrS b) Z1 H1 E1 Fs1 Z' H' E' Fs' ∧ (∀ j, j ∉ tgs tg ++ asg b → σ'[j]? = σ[j]?) ∧ forL (fun x E => do let E ← bindT tg x E; ex B.Φ b E) (its.drop i) E' = some o)
    ⟨Z1, E1, Fs1, st, Chg.refl _ _ _ _ _, fun _ _ => rfl, he⟩ (fun i σ' H' _ ⟨Z', E', Fs', s', c', _⟩ => hG c' s'.sub) ?_ ?_
  · rintro i x σ' H' H2 hi ⟨Z', E', Fs', s', c', g', e'⟩ hy
    obtain ⟨d, hd⟩ : ∃ d, its[i]? = some d := ⟨_, List.getElem?_eq_getElem hi⟩
    obtain ⟨Zn, s2, c2, r2⟩ := hY i d x H' H2 Z' hd c'.le (hG c' s'.sub) hy E' σ' Fs' s'
    rw [List.drop_eq_getElem_cons hi] at e'
    have ed : its[i] = d := by
      rw [List.getElem?_eq_getElem hi] at hd
      exact Option.some.inj hd
    rw [ed] at e'
    simp only [forL, Option.bind_eq_bind] at e'
    cases eb : bindT tg (shv d) E' with
    | none => rw [eb] at e'; simp at e'
    | some E2 =>
      rw [eb] at e'
      simp only [Option.bind_some] at e'
      cases ex2 : ex B.Φ b E2 with
      | none => rw [ex2] at e'; simp at e'
      | some o2 =>
        rw [ex2] at e'
        have pe : Pe B.K B.FA (tgs tg ++ wrS b) none Z1 H1 E1 Fs1 σ' (shv d) E' x Zn H2 [] Fs' := by
          refine ⟨s2, (c'.trans c2).mono fun i hi => (by simpa using hi), r2, fun _ => ⟨by simpa using s2.nd, fun _ m => (by cases m), fun _ m => (by cases m)⟩, fun _ _ z => (by cases z)⟩
        refine bind_ok pe eb fun σ3 Fs3 s3 c3 g3 => ?_
        have c3' : Chg (tgs tg ++ wrS b) Z1 H1 E1 Fs1 Zn H2 E2 Fs3 := c3.mono fun i hi => by
          simp only [List.mem_append] at hi ⊢
          rcases hi with z | z | z
          · exact .inl z
          · exact .inl z
          · exact .inr z
        refine ⟨Zn, E2, Fs3, o2, s3, ex2, ?_⟩
        have idem : ∀ i, i ∈ (tgs tg ++ wrS b) ++ wrS b → i ∈ tgs tg ++ wrS b := fun i hi => by
          simp only [List.mem_append] at hi ⊢
          rcases hi with (z | z) | z
          · exact .inl z
          · exact .inr z
          · exact .inr z
        cases o2 with
        | nx E4 =>
          intro σ4 H4 Z4 Fs4 s4 c4 g4
          refine ⟨Z4, E4, Fs4, s4, (c3'.trans c4).mono idem, fun j hj => ?_, e'⟩
          have hj' : j ∉ tgs tg ∧ j ∉ asg b := by simpa only [List.mem_append, not_or] using hj
          exact (g4 j hj'.2).trans ((g3 j hj'.1).trans (g' j hj))
        | rs y E4 =>
          intro σ4 H0 H4 Z4 Fs4 cls d s4 c4 lk g4 v fr
          simp only [Option.some.injEq] at e'
          subst e'
          refine q σ4 H0 H4 Z4 Fs4 cls d s4 ((c3'.trans c4).mono idem) lk (fun j hj => ?_) v (c3'.fr' fr)
          have hj' : j ∉ tgs tg ∧ j ∉ asg b := by simpa only [List.mem_append, not_or] using hj
          exact (g4 j hj'.2).trans ((g3 j hj'.1).trans (g' j hj))
        | rt y E4 =>
          intro v σ4 H4 Z4 Fd Fs4 p4 g4
          simp only [Option.some.injEq] at e'
          subst e'
          refine q v σ4 H4 Z4 Fd Fs4 ⟨p4.st, (c3'.trans p4.ch).mono idem, p4.val, fun e => ?_, fun _ _ z => (by cases z)⟩ fun j hj => ?_
          · obtain ⟨n1, n2, n3⟩ := p4.ex e
            refine ⟨n1, n2, fun z hz => ?_⟩
            rcases n3 z hz with y | y
            · exact .inl (c3'.free y)
            · exact ((c3'.wc y).imp (fun w => w.mono idem) id).symm
          · have hj' : j ∉ tgs tg ∧ j ∉ asg b := by simpa only [List.mem_append, not_or] using hj
            exact (g4 j hj'.2).trans ((g3 j hj'.1).trans (g' j hj))
  · rintro σ' H' ⟨Z', E', Fs', s', c', g', e'⟩
    rw [List.drop_length] at e'
    simp only [forL, Option.some.injEq] at e'
    subst e'
    exact q σ' H' Z' Fs' s' c' g'

theorem yld_at {its : List D} {vs : List V} {Z1 : Hp} {G : Hp → Prop} (h : Items B.K B.FA Z1 its vs) : Yld B.K B.FA its Z1 G (YAt vs) := by
  intro i d x H H' Z hd le _ hy E σ Fs st
  obtain ⟨rfl, hx⟩ := hy
  obtain ⟨v, hv, r⟩ := h.itm i d hd
  rw [hx] at hv
  cases hv
  exact ⟨Z, st, Chg.refl _ _ _ _ _, r Z H' le⟩
theorem yld_int {lo c : Int} {n : Nat} {Z1 : Hp} {G : Hp → Prop} {f : Nat → V} (hf : ∀ i, f i = .int (lo + (i : Nat) * c)) : Yld B.K B.FA (rng lo c 0 n) Z1 G (YFn f) := by
  intro i d x H H' Z hd le _ hy E σ Fs st
  obtain ⟨rfl, rfl⟩ := hy
  have key : ∀ (n k i : Nat) (d : D), (rng lo c k n)[i]? = some d → d = .int (lo + ((k + i : Nat) : Int) * c) := fun n => by
    induction n with
    | zero => intro k i d h; simp [rng] at h
    | succ n ih =>
      intro k i d h
      cases i with
      | zero => simp [rng] at h; rw [← h]; simp
      | succ i =>
        have := ih (k + 1) i d (by simpa [rng] using h)
        rw [this]
        congr 3
        omega
  have e := key n 0 i d hd
  subst e
  refine ⟨Z, st, Chg.refl _ _ _ _ _, ?_⟩
  rw [hf]
  simp only [Nat.zero_add]
  exact ⟨rfl, rfl⟩
theorem rng_len (lo c : Int) : ∀ (n k : Nat), (rng lo c k n).length = n
  | 0, _ => rfl
  | n + 1, k => by simp [rng, rng_len lo c n]
end
end BS

set_option Elab.async false
set_option linter.all false
set_option maxRecDepth 100000
set_option maxHeartbeats 2000000
namespace BS
open PySem PySem.Spec PyProof.Rows L2
theorem _root_.L2.PI.or {X : Cx} {tg e : Expr} {t t' : TI} (h : PI X tg e t) (h' : PI X tg e t') : PI X tg e (fun σ H R => t σ H R ∨ t' σ H R) :=
  ⟨fun pins s σ H R I w => w.elim (h.run pins s σ H R I) (h'.run pins s σ H R I)⟩
section
variable {X : Cx} {B : Bk} {pos p pos' : Pos} {Z1 : Hp} {G : Hp → Prop} {body : List Stmt} {b : Ss} {ee ef eg tgE : Expr} {e f g : Ex} {T : Tg}
theorem for_post {k : Ik} {es : List Ex} {Z H Z2 H2 : Hp} {E E2 : En} {Fs Fs2 : List (List Addr)} {σ : Sl} {D : Ends} {o : Out} (q : SPost B (.for_ T k es b) Z H E Fs σ D o) (c : Chg (wrs es) Z H E Fs Z2 H2 E2 Fs2) :
    PostW B (tgs T ++ wrS b) (tgs T ++ asg b) Z2 H2 E2 Fs2 σ D o := by
  have sub : ∀ i, i ∈ wrs es ++ (tgs T ++ wrS b) → i ∈ wrS (.for_ T k es b) := fun i hi => by
    simp only [wrS, List.mem_append] at hi ⊢
    rcases hi with z | z | z
    · exact .inr (.inl z)
    · exact .inl z
    · exact .inr (.inr z)
  cases o with
  | nx E' => exact fun σ' H' Z' Fs' s' c' g' => q σ' H' Z' Fs' s' ((c.trans c').mono sub) fun i hi => g' i (by simpa only [asg] using hi)
  | rs x E' => exact fun σ' H0 H' Z' Fs' cls d s' c' lk g' v fr => q σ' H0 H' Z' Fs' cls d s' ((c.trans c').mono sub) lk (fun i hi => g' i (by simpa only [asg] using hi)) v (c.fr' fr)
  | rt x E' =>
    intro v σ' H' Z' Fd Fs' p g'
    refine q v σ' H' Z' Fd Fs' ⟨p.st, (c.trans p.ch).mono sub, p.val, fun e => ?_, fun _ _ z => (by cases z)⟩ fun i hi => g' i (by simpa only [asg] using hi)
    obtain ⟨n1, n2, n3⟩ := p.ex e
    refine ⟨n1, n2, fun z hz => ?_⟩
    rcases n3 z hz with y | y
    · exact .inl (c.free y)
    · exact ((c.wc y).imp (fun w => w.mono sub) id).symm
theorem ex_for {Φ : Phi} {k : Ik} {es : List Ex} {E : En} {o : Out} (h : ex Φ (.for_ T k es b) E = some o) : ∃ xs E1 its, (match k with | .rng => evs Φ es E | .zip => evs Φ es E | _ => evit Φ (wrS b ++ tgs T) es E) = some (xs, E1) ∧ items k (ds xs) = some its ∧ forL (fun x E => do let E ← bindT T x E; ex Φ b E) its E1 = some o := by
  simp only [ex, Option.bind_eq_bind, Option.bind_eq_some_iff, Prod.exists] at h
  obtain ⟨xs, E1, h1, its, h2, h3⟩ := h
  exact ⟨xs, E1, its, h1, h2, h3⟩
theorem wrs1 (e : Ex) : ∀ i, i ∈ (if isPl e then [root e] else []) ++ wr e → i ∈ wrs [e] := fun i hi => by simpa [wrs] using hi

theorem ss_for (he : PE X ee (SE B e)) (hg : PG X tgE (tgT B.K T)) (hb : PSs X body (SS B b)) (hp : PassesOwn (model X.prog X.w) X.A X.env X.xe := by first | exact PassesOwn.never | exact PassesOwn.leaving | assumption) (hc : X.calm = true := by rfl) (hK : X.K = B.K := by rfl) (hs : ∀ x, foldedSetIterable ee X.env x = pure x := by intro _; rfl) :
    PS X (.For tgE ee body [] pos) (SS B (.for_ T .of [e] b)) := by
  refine (ps_for hp hc ((pi_list he).or ((pi_tup he).or (pi_str he))) hg hb hs).imp fun D σ H h => ?_
  obtain ⟨Z, E, Fs, o, s, hx, q⟩ := h
  obtain ⟨xs, E1', its, h1, h2, h3⟩ := ex_for hx
  obtain ⟨x, E1, h0, hcase⟩ := evit1 h1
  have key : ∀ {R2 : V → Hp → Prop}, (∀ v H1 Z2 Fs2, Stt B.K B.FA Z2 H1 E1' σ Fs2 → Chg (wrs [e]) Z H E Fs Z2 H1 E1' Fs2 → ds xs = [x.1] →
      (∀ ys, x.1 = .lst ys → ∃ q vs, v = .ref q ∧ SrcL B.K B.FA (wrS b ++ tgs T) Z2 H1 E1' Fs2 ys q vs) →
      (∀ ys, x.1 = .tup ys → ∃ q vs, v = .ref q ∧ Z2 q = some (.tup vs) ∧ Items B.K B.FA Z2 ys vs) →
      (∀ s, x.1 = .str s → v = .str s ∧ s.length ≤ line ∧ PyData.strOk s = true) → R2 v H1) → SE B e σ H R2 := fun {R2} k => by
    refine ⟨Z, E, Fs, x, E1, s, h0, fun v H1 Z1 Fd Fs1 p => ?_⟩
    obtain ⟨Z2, Fs2, s2, c2, d2, l2, t2, st2, _⟩ := p.src hcase
    exact k v H1 Z2 Fs2 s2 (c2.mono (wrs1 e)) d2 l2 t2 st2
  cases hd : x.1 with
  | lst ys =>
    refine .inl (key fun v H1 Z2 Fs2 s2 c2 d2 l2 t2 st2 => ?_)
    rw [hd] at d2
    rw [d2] at h2
    simp only [items, Option.some.injEq] at h2
    subst h2
    obtain ⟨a, vs, rfl, src⟩ := l2 ys hd
    have hq : H1 a = some (.lst vs) := src.stand (Chg.refl _ _ _ _ _) s2.sub
    refine ⟨a, rfl, ⟨vs, SqL.of hq⟩, ?_⟩
    rw [hK]
    refine for_se (walk_list (K := B.K) (a := a) (xs := vs)) s2 src.it.len h3 (fun {H' Z' E' Fs'} c s' => ?_) (yld_at src.it) (for_post q c2)
    exact SqL.of (src.stand (c.mono fun i hi => by simp only [List.mem_append] at hi ⊢; exact hi.symm) s')
  | tup ys =>
    refine .inr (.inl (key fun v H1 Z2 Fs2 s2 c2 d2 l2 t2 st2 => ?_))
    rw [hd] at d2
    rw [d2] at h2
    simp only [items, Option.some.injEq] at h2
    subst h2
    obtain ⟨a, vs, rfl, hq, it⟩ := t2 ys hd
    refine ⟨a, rfl, ⟨vs, SqT.of (tup_sub s2.sub hq)⟩, ?_⟩
    rw [hK]
    refine for_se (walk_tup (K := B.K) (a := a) (xs := vs)) s2 it.len h3 (fun {H' Z' E' Fs'} c s' => ?_) (yld_at it) (for_post q c2)
    exact SqT.of (tup_sub s' (c.le a _ hq))
  | str z =>
    refine .inr (.inr (key fun v H1 Z2 Fs2 s2 c2 d2 l2 t2 st2 => ?_))
    rw [hd] at d2
    rw [d2] at h2
    simp only [items, Option.some.injEq] at h2
    subst h2
    obtain ⟨rfl, hl, hok⟩ := st2 z hd
    refine ⟨z, rfl, ?_⟩
    refine for_se (walk_str (z := z)) s2 (by simp [chars]) h3 (fun {H' Z' E' Fs'} c s' => trivial) ?_ (for_post q c2)
    intro i d x H H' Z hd le _ hy E σ Fs st
    obtain ⟨rfl, c, hc, rfl⟩ := hy
    have e0 : d = .str ⟨#[c]⟩ := by
      have : (chars z)[i]? = some (.str ⟨#[c]⟩) := by
        unfold chars
        rw [List.getElem?_map]
        have : z.cps.toList[i]? = some c := by simpa using hc
        rw [this]
        rfl
      rw [this] at hd
      exact (Option.some.inj hd).symm
    subst e0
    have hcm : c ∈ z.cps.toList := List.mem_of_getElem? (i := i) (by simpa using hc)
    exact ⟨Z, st, Chg.refl _ _ _ _ _, ⟨rfl, (by decide : 1 ≤ 16777216), strOk_one (strOk_iff.mp hok c hcm)⟩, rfl⟩
  | _ =>
    exfalso
    have d2 : ds xs = [x.1] := by
      rcases hcase with ⟨_, _, _, _, rfl, _⟩ | ⟨rfl, _⟩
      · rfl
      · have ec : (BS.esc e x E1).1.1 = x.1 := by unfold BS.esc; split <;> rfl
        simp [ds, ec]
    rw [d2, hd] at h2
    simp [items] at h2
theorem inB_ok {n : Int} (h : inB n = true) : -(2 ^ 62) ≤ n ∧ n < 2 ^ 62 := by
  simpa [inB] using h
theorem rgc_ok {lo hi c : Int} (h1 : inB lo = true) (h2 : inB hi = true) (h3 : 0 < c) (h4 : c < 1073741824) : RgC lo hi c ((hi - lo + c - 1) / c).toNat := by
  obtain ⟨a1, a2⟩ := inB_ok h1
  obtain ⟨b1, b2⟩ := inB_ok h2
  have e : Builtin.Range.rangeSize lo hi c = (((hi - lo + c - 1) / c).toNat : Int) := by
    unfold Builtin.Range.rangeSize
    rw [if_pos h3]
    split
    · rename_i hl
      have e1 : hi - lo + c - 1 = (hi - lo - 1) + c := by omega
      have e2 : ((hi - lo - 1) + c) / c = (hi - lo - 1) / c + 1 := Int.add_ediv_of_dvd_right (Int.dvd_refl c) |>.trans (by rw [Int.ediv_self (by omega)])
      rw [e1, e2]
      have : 0 ≤ (hi - lo - 1) / c := Int.ediv_nonneg (by omega) (by omega)
      omega
    · rename_i hl
      have : (hi - lo + c - 1) / c ≤ 0 := by
        have : (hi - lo + c - 1) / c < 1 := Int.ediv_lt_of_lt_mul h3 (by omega)
        omega
      omega
  refine ⟨by omega, by omega, ?_, e⟩
  unfold Builtin.Range.small
  rw [e]
  have n1 : (((hi - lo + c - 1) / c).toNat : Int) < 2 ^ 63 := by
    by_cases hl : lo < hi
    · have e1 : hi - lo + c - 1 = (hi - lo - 1) + c := by omega
      have e2 : ((hi - lo - 1) + c) / c = (hi - lo - 1) / c + 1 := Int.add_ediv_of_dvd_right (Int.dvd_refl c) |>.trans (by rw [Int.ediv_self (by omega)])
      rw [e1, e2]
      have := Int.ediv_le_self (a := hi - lo - 1) c (by omega)
      omega
    · have : (hi - lo + c - 1) / c < 1 := Int.ediv_lt_of_lt_mul h3 (by omega)
      omega
  have n0 : (0 : Int) ≤ (((hi - lo + c - 1) / c).toNat : Int) := by omega
  simp only [Builtin.Range.rangeFitsLong, Bool.and_eq_true, Bool.or_eq_true, decide_eq_true_eq, beq_iff_eq, if_pos h3]
  omega

theorem rng_items {l : List D} {its : List D} (h : items .rng l = some its) : (∃ n, l = [.int n] ∧ inB n = true ∧ its = rng 0 1 0 n.toNat) ∨ (∃ lo hi, l = [.int lo, .int hi] ∧ inB lo = true ∧ inB hi = true ∧ its = rng lo 1 0 (hi - lo).toNat) ∨
    (∃ lo hi c n, l = [.int lo, .int hi, .int c] ∧ RgC lo hi c n ∧ its = rng lo c 0 n) := by
  rcases l with _ | ⟨a, _ | ⟨b, _ | ⟨c, _ | ⟨d, l⟩⟩⟩⟩
  · simp [items] at h
  · cases a <;> simp [items] at h
    exact .inl ⟨_, rfl, h.1, h.2.symm⟩
  · cases a <;> cases b <;> simp [items] at h
    exact .inr (.inl ⟨_, _, rfl, h.1.1, h.1.2, h.2.symm⟩)
  · cases a <;> cases b <;> cases c <;> try (simp [items] at h; done)
    rename_i lo hi c
    simp only [items] at h
    by_cases z : 0 < c
    · rw [if_pos z] at h
      simp at h
      exact .inr (.inr ⟨_, _, _, _, rfl, rgc_ok h.1.1.1.1 h.1.1.1.2 h.1.1.2 h.1.2, h.2.symm⟩)
    · rw [if_neg z] at h
      simp at h
      obtain ⟨⟨⟨h1, h2⟩, h3⟩, h4⟩ := h
      subst h3
      obtain ⟨a1, a2⟩ := inB_ok h1
      obtain ⟨b1, b2⟩ := inB_ok h2
      exact .inr (.inr ⟨_, _, _, _, rfl, RgC.neg a1 a2 b1 b2, h4.symm⟩)
  · cases a <;> simp [items] at h
theorem ints_val {K : PySem.W.Frag} {FA : Nat → Addr → Prop} {Z H : Hp} : ∀ {xs : List Val} {vs : List V} {Fds : List (List Addr)} {ns : List Int}, RL K FA Z H xs vs Fds → ds xs = ns.map .int → vs = ns.map .int
  | [], [], [], [], _, _ => rfl
  | x :: xs, v :: vs, F :: Fds, n :: ns, h, e => by
    obtain ⟨xd, xw⟩ := x
    simp only [ds, List.map_cons, List.cons.injEq] at e
    obtain ⟨rfl, e⟩ := e
    have h1 : R K FA Z H xw (.int n) v F := h.1
    rw [h1.1, ints_val h.2 e]
    rfl
  | [], _, _, _ :: _, _, e => by simp [ds] at e
  | _ :: _, _, _, [], _, e => by simp [ds] at e
  | [], [], _ :: _, [], h, _ => h.elim
  | [], _ :: _, _, [], h, _ => h.elim
  | _ :: _, [], _, _ :: _, h, _ => h.elim
  | _ :: _, _ :: _, [], _ :: _, h, _ => h.elim
theorem rng1 (lo : Int) (n : Nat) : Yld B.K B.FA (rng lo 1 0 n) Z1 G (YFn fun i => .int (lo + i)) := yld_int fun i => by simp
theorem range_src {es : List Ex} {ta : TA} {n : Nat} {D : Ends} {σ : Sl} {H : Hp} (h : SS B (.for_ T .rng es b) D σ H) : SXs B es σ H fun vs H1 => ∃ its, (∃ ns : List Int, items .rng (ns.map .int) = some its ∧ vs = ns.map .int) ∧
    ∀ (J : It) (n : Nat) (Y : Nat → Hp → V → Hp → Prop), Walk J n (fun _ => True) Y → n = its.length → (∀ Z1, Yld B.K B.FA its Z1 (fun _ => True) Y) →
      ∃ W : Nat → Nat → L2.St → Hp → Prop, (∃ m, W 0 m σ H1) ∧ ∀ i m σ H, W i m σ H →
      (J.stop i H ∧ D.nx σ H) ∨ (J.go i H ∧ ∃ N : L2.St → Hp → Prop, (∀ σ' H', N σ' H' → ∃ m', m' < m ∧ W (i + 1) m' σ' H') ∧ ∀ x H', J.yld i H x H' → tgT B.K T x σ H' fun σ2 H2 => SS B b { D with nx := N, ct := N, bk := D.nx } σ2 H2) := by
  obtain ⟨Z, E, Fs, o, s, hx, q⟩ := h
  obtain ⟨xs, E1', its, h1, h2, h3⟩ := ex_for hx
  refine ⟨Z, E, Fs, xs, E1', s, h1, fun vs H1 Z1 Fds Fs1 p => ⟨its, ?_, fun J n Y w hn hY => ?_⟩⟩
  · have hr := rng_items h2
    obtain ⟨ns, hns⟩ : ∃ ns : List Int, ds xs = ns.map BS.D.int := by
      rcases hr with ⟨n, e, _⟩ | ⟨lo, hi, e, _⟩ | ⟨lo, hi, c, n3, e, _⟩
      · exact ⟨[n], e⟩
      · exact ⟨[lo, hi], e⟩
      · exact ⟨[lo, hi, c], e⟩
    exact ⟨ns, by rw [← hns]; exact h2, ints_val p.val hns⟩
  · exact for_se w p.st hn h3 (fun _ _ => trivial) (hY Z1) (for_post q p.ch)
theorem ss_range1 (hg' : Gl X "range") (hm : X.mg "range" = none) (ha : PA X [ee] (SXs B [e])) (hg : PG X tgE (tgT B.K T)) (hb : PSs X body (SS B b)) (hp : PassesOwn (model X.prog X.w) X.A X.env X.xe := by first | exact PassesOwn.never | exact PassesOwn.leaving | assumption) (hc : X.calm = true := by rfl)
    (he : starEach [ee] X.env = [(false, eval ee X.env)] := by rfl) (hs : ∀ x, foldedSetIterable (.Call (.Name "range" p) [ee] [] pos') X.env x = pure x := by intro _; rfl) :
    PS X (.For tgE (.Call (.Name "range" p) [ee] [] pos') body [] pos) (SS B (.for_ T .rng [e] b)) := by
  refine (ps_for hp hc (pi_range1 hg' hm ha he) hg hb hs).imp fun D σ H h => ?_
  obtain ⟨Z, E, Fs, xs, E1, s, h1, k⟩ := range_src (ta := tNil) (n := 0) h
  refine ⟨Z, E, Fs, xs, E1, s, h1, fun vs H1 Z1 Fds Fs1 p => ?_⟩
  obtain ⟨its, ⟨ns, hi, rfl⟩, kk⟩ := k vs H1 Z1 Fds Fs1 p
  have hl : ∃ n, ns = [n] := by
    have e1 := p.val.length
    have e2 : xs.length = 1 := by
      obtain ⟨_, _, ys, _, h2, rfl⟩ := evs_cons h1
      simp only [evs, Option.some.injEq, Prod.mk.injEq] at h2
      rw [← h2.1]
      rfl
    rw [e2, List.length_map] at e1
    match ns, e1 with
    | [n], _ => exact ⟨n, rfl⟩
  obtain ⟨n, rfl⟩ := hl
  rcases rng_items hi with ⟨n', e, hb', rfl⟩ | ⟨lo, hi', e, _⟩ | ⟨lo, hi', c, n3, e, _⟩
  · simp only [List.map_cons, List.map_nil, List.cons.injEq, BS.D.int.injEq, and_true] at e
    subst e
    obtain ⟨b1, b2⟩ := inB_ok hb'
    exact ⟨n, rfl, b1, b2, kk _ _ _ walk_range (rng_len _ _ _ _).symm fun Z1 => rng1 _ _⟩
  · simp at e
  · simp at e
end
end BS

set_option Elab.async false
set_option linter.all false
set_option maxRecDepth 100000
set_option maxHeartbeats 2000000
namespace BS
open PySem PySem.Spec PyProof.Rows L2

theorem wipes_len (E : En) : ∀ is : List Nat, (wipes is E).length = E.length
  | [] => rfl
  | i :: is => by simp [wipes, wipes_len E is]
theorem wipes_out {E : En} {j : Nat} : ∀ {is : List Nat}, j ∉ is → (wipes is E)[j]? = E[j]?
  | [], _ => rfl
  | i :: is, h => by
    have n1 : i ≠ j := fun z => h (by rw [z]; exact List.mem_cons_self)
    show ((wipes is E).set i none)[j]? = _
    rw [List.getElem?_set_ne n1]
    exact wipes_out fun z => h (List.mem_cons_of_mem _ z)
theorem wipes_in {E : En} {j : Nat} : ∀ {is : List Nat}, j ∈ is → j < E.length → (wipes is E)[j]? = some none
  | i :: is, h, hl => by
    show ((wipes is E).set i none)[j]? = _
    by_cases e : i = j
    · subst e
      rw [List.getElem?_set_self (by rw [wipes_len]; exact hl)]
    · rw [List.getElem?_set_ne e]
      refine wipes_in ?_ hl
      rcases List.mem_cons.mp h with z | z
      · exact absurd z.symm e
      · exact z
theorem wipe_out {σ : Sl} {j : Nat} : ∀ {is : List Nat}, j ∉ is → (wipe σ is)[j]? = σ[j]?
  | [], _ => rfl
  | i :: is, h => by
    have n1 : i ≠ j := fun z => h (by rw [z]; exact List.mem_cons_self)
    show ((wipe σ is).set i none)[j]? = _
    rw [List.getElem?_set_ne n1]
    exact wipe_out fun z => h (List.mem_cons_of_mem _ z)
theorem wipe_in {σ : Sl} {j : Nat} : ∀ {is : List Nat}, j ∈ is → j < σ.length → (wipe σ is)[j]? = some none
  | i :: is, h, hl => by
    show ((wipe σ is).set i none)[j]? = _
    by_cases e : i = j
    · subst e
      rw [List.getElem?_set_self (by rw [wipe_length]; exact hl)]
    · rw [List.getElem?_set_ne e]
      refine wipe_in ?_ hl
      rcases List.mem_cons.mp h with z | z
      · exact absurd z.symm e
      · exact z
theorem wipe_eq {σ σ' : Sl} {is : List Nat} (hl : σ'.length = σ.length) (h : ∀ j, j ∉ is → σ'[j]? = (wipe σ is)[j]?) : wipe σ' is = wipe σ is := by
  apply List.ext_getElem?
  intro j
  by_cases hj : j ∈ is
  · by_cases hjl : j < σ.length
    · rw [wipe_in hj hjl, wipe_in hj (by omega)]
    · rw [List.getElem?_eq_none (by rw [wipe_length]; omega), List.getElem?_eq_none (by rw [wipe_length]; omega)]
  · rw [wipe_out hj]
    exact h j hj
theorem back_len (E0 E : En) : ∀ is : List Nat, (back is E0 E).length = E.length
  | [] => rfl
  | i :: is => by simp [back, back_len E0 E is]
theorem back_out {E0 E : En} {j : Nat} : ∀ {is : List Nat}, j ∉ is → (back is E0 E)[j]? = E[j]?
  | [], _ => rfl
  | i :: is, h => by
    have n1 : i ≠ j := fun z => h (by rw [z]; exact List.mem_cons_self)
    show ((back is E0 E).set i _)[j]? = _
    rw [List.getElem?_set_ne n1]
    exact back_out fun z => h (List.mem_cons_of_mem _ z)
theorem back_in {E0 E : En} {j : Nat} : ∀ {is : List Nat}, j ∈ is → j < E.length → (back is E0 E)[j]? = some (E0.getD j none)
  | i :: is, h, hl => by
    show ((back is E0 E).set i _)[j]? = _
    by_cases e : i = j
    · subst e
      rw [List.getElem?_set_self (by rw [back_len]; exact hl)]
    · rw [List.getElem?_set_ne e]
      refine back_in ?_ hl
      rcases List.mem_cons.mp h with z | z
      · exact absurd z.symm e
      · exact z
def wipeF (Fs : List (List Addr)) : List Nat → List (List Addr)
  | [] => Fs
  | i :: is => (wipeF Fs is).set i []
theorem wipeF_len (Fs : List (List Addr)) : ∀ is : List Nat, (wipeF Fs is).length = Fs.length
  | [] => rfl
  | i :: is => by simp [wipeF, wipeF_len Fs is]
theorem wipeF_out {Fs : List (List Addr)} {j : Nat} : ∀ {is : List Nat}, j ∉ is → (wipeF Fs is).getD j [] = Fs.getD j []
  | [], _ => rfl
  | i :: is, h => by
    have n1 : i ≠ j := fun z => h (by rw [z]; exact List.mem_cons_self)
    show ((wipeF Fs is).set i []).getD j [] = _
    rw [getD_set_ne n1]
    exact wipeF_out fun z => h (List.mem_cons_of_mem _ z)
theorem wipeF_in {Fs : List (List Addr)} {j : Nat} : ∀ {is : List Nat}, j ∈ is → (wipeF Fs is).getD j [] = []
  | i :: is, h => by
    show ((wipeF Fs is).set i []).getD j [] = _
    by_cases e : i = j
    · subst e
      rw [List.getD_eq_getElem?_getD]
      by_cases hl : i < (wipeF Fs is).length
      · rw [List.getElem?_set_self hl]; rfl
      · rw [List.getElem?_eq_none (by simpa using hl)]; rfl
    · rw [getD_set_ne e]
      refine wipeF_in ?_
      rcases List.mem_cons.mp h with z | z
      · exact absurd z.symm e
      · exact z
theorem wipeF_sub {Fs : List (List Addr)} : ∀ {is : List Nat}, (wipeF Fs is).flatten.Sublist Fs.flatten
  | [] => List.Sublist.refl _
  | i :: is => unset_sub.trans wipeF_sub
section
variable {K : PySem.W.Frag} {FA : Nat → Addr → Prop} {Z Z' H H' : Hp}
theorem RE.mk' : ∀ {E : En} {σ : Sl} {Fs : List (List Addr)}, E.length = σ.length → Fs.length = σ.length → (∀ j x v, E[j]? = some x → σ[j]? = some v → RO K FA Z H x v (Fs.getD j [])) → RE K FA Z H E σ Fs
  | [], [], [], _, _, _ => trivial
  | x :: E, v :: σ, F :: Fs, h1, h2, h => by
    refine ⟨?_, RE.mk' (by simpa using h1) (by simpa using h2) fun j y u e1 e2 => ?_⟩
    · have := h 0 x v rfl rfl
      simpa using this
    · have := h (j + 1) y u (by simpa using e1) (by simpa using e2)
      simpa using this
  | [], _ :: _, _, h, _, _ => by simp at h
  | _ :: _, [], _, h, _, _ => by simp at h
  | [], [], _ :: _, _, h, _ => by simp at h
  | _ :: _, _ :: _, [], _, h, _ => by simp at h

theorem Stt.wiped {E : En} {σ : Sl} {Fs : List (List Addr)} (st : Stt K FA Z H E σ Fs) (is : List Nat) : Stt K FA Z H (wipes is E) (wipe σ is) (wipeF Fs is) := by
  obtain ⟨l1, l2⟩ := st.re.length
  refine ⟨st.sub, RE.mk' (by rw [wipes_len, wipe_length, l1]) (by rw [wipeF_len, wipe_length, l2]) fun j x v e1 e2 => ?_, st.nd.sublist wipeF_sub, fun a ha => st.zf a (wipeF_sub.subset ha)⟩
  by_cases hj : j ∈ is
  · have hl : j < E.length := by
      have := (List.getElem?_eq_some_iff.mp e1).1
      rwa [wipes_len] at this
    rw [wipes_in hj hl] at e1
    cases e1
    exact wipeF_in hj
  · rw [wipes_out hj] at e1
    rw [wipe_out hj] at e2
    obtain ⟨v', hv, ro⟩ := st.re.get e1
    rw [e2] at hv
    cases hv
    rw [wipeF_out hj]
    exact ro
theorem keep_nil {E : En} {σ : Sl} {Fs : List (List Addr)} (st : Stt K FA Z H E σ Fs) {is : List Nat} (h : keepable is E = true) : ∀ j ∈ is, j < E.length ∧ Fs.getD j [] = [] ∧ ∀ v, σ[j]? = some v → ∀ Z' H', Le Z Z' → RO K FA Z' H' (E.getD j none) v [] := fun j hj => by
  have hk := List.all_eq_true.mp h j hj
  cases e : E[j]? with
  | none => rw [e] at hk; cases hk
  | some o =>
    rw [e] at hk
    have hl := (List.getElem?_eq_some_iff.mp e).1
    obtain ⟨v', hv, ro⟩ := st.re.get e
    have ed : E.getD j none = o := by rw [List.getD_eq_getElem?_getD, e]; rfl
    cases o with
    | none => exact ⟨hl, ro, fun v _ Z' H' _ => by rw [ed]; rfl⟩
    | some x =>
      obtain ⟨d, w⟩ := x
      cases v' with
      | none => exact ro.elim
      | some u =>
        have ro : R K FA Z H w d u (Fs.getD j []) := ro
        simp only [Bool.or_eq_true, decide_eq_true_eq] at hk
        have shr : Fs.getD j [] = [] ∧ ∀ Z' H', Le Z Z' → R K FA Z' H' w d u [] := by
          rcases hk with z | z
          · obtain ⟨e0, kr⟩ := R_plain d z ro
            exact ⟨e0, fun Z' H' le => R_keep (H := H') le _ (fun _ m => (by cases m)) (kr w H')⟩
          · subst z
            have e0 := R_sh d ro
            rw [e0] at ro
            exact ⟨e0, fun Z' H' le => R_share (H := H) le _ (fun _ m => (by cases m)) ro⟩
        refine ⟨hl, shr.1, fun v hv2 Z' H' le => ?_⟩
        rw [hv] at hv2
        cases hv2
        rw [ed]
        exact shr.2 Z' H' le
theorem Stt.backed {Z1 H1 : Hp} {E1 E : En} {σ : Sl} {Fs1 Fs : List (List Addr)} {is : List Nat} (st1 : Stt K FA Z1 H1 E1 σ Fs1) (hk : keepable is E1 = true) (le : Le Z1 Z) (st : Stt K FA Z H E (wipe σ is) Fs) (hF : ∀ j ∈ is, Fs.getD j [] = []) :
    Stt K FA Z H (back is E1 E) σ Fs := by
  obtain ⟨l1, l2⟩ := st.re.length
  rw [wipe_length] at l1 l2
  refine ⟨st.sub, RE.mk' (by rw [back_len, l1]) l2 fun j x v e1 e2 => ?_, st.nd, st.zf⟩
  by_cases hj : j ∈ is
  · have hl : j < E.length := by
      have := (List.getElem?_eq_some_iff.mp e1).1
      rwa [back_len] at this
    rw [back_in hj hl] at e1
    cases e1
    rw [hF j hj]
    exact (keep_nil st1 hk j hj).2.2 v e2 Z H le
  · rw [back_out hj] at e1
    obtain ⟨v', hv, ro⟩ := st.re.get e1
    rw [wipe_out hj, e2] at hv
    cases hv
    exact ro

theorem Stt.other {E : En} {σ : Sl} {Fs : List (List Addr)} {q : Addr} {o : HO} (st : Stt K FA Z H E σ Fs) (h1 : q ∉ Fs.flatten) (h2 : Z q = none) : Stt K FA Z (upd H q o) E σ Fs :=
  ⟨fun a u e => by
      have ne : a ≠ q := fun z => by rw [z, h2] at e; cases e
      rw [upd_ne ne]
      exact st.sub a u e,
    RE.keep (Le.refl Z) (fun a ha => upd_ne fun z => h1 (z ▸ ha)) st.re, st.nd, st.zf⟩
end
end BS

set_option Elab.async false
set_option linter.all false
set_option maxRecDepth 100000
set_option maxHeartbeats 2000000
namespace BS
open PySem PySem.Spec PyProof.Rows L2
section
variable {B : Bk}

def turnL (Φ : Phi) (shr : Bool) (elt : Ex) (tg : Tg) (cond : Ex) (x : Val) (E : En) : Option (Option Val × En) := do
  let E ← bindT tg x (wipes (tgs tg) E)
  let (c, E) ← ev Φ cond E
  match c.1 with
  | .bl true => do
    let (y, E) ← ev Φ elt E
    let (y, E) := esc elt y E
    if plain y.1 || shr || decide (y.2 = .deep) then some (some y, E) else none
  | .bl false => some (none, E)
  | _ => none
theorem turnL_inv {Φ : Phi} {shr : Bool} {elt : Ex} {tg : Tg} {cond : Ex} {x : Val} {E E' : En} {r : Option Val} (h : turnL Φ shr elt tg cond x E = some (r, E')) : ∃ E2 c w E3, bindT tg x (wipes (tgs tg) E) = some E2 ∧ ev Φ cond E2 = some ((.bl c, w), E3) ∧
    if c = true then ∃ y E4, ev Φ elt E3 = some (y, E4) ∧ (plain (esc elt y E4).1.1 = true ∨ shr = true ∨ (esc elt y E4).1.2 = .deep) ∧ r = some (esc elt y E4).1 ∧ E' = (esc elt y E4).2 else r = none ∧ E' = E3 := by
  simp only [turnL, Option.bind_eq_bind, Option.bind_eq_some_iff, Prod.exists] at h
  obtain ⟨E2, h1, cd, cw, E3, h2, h3⟩ := h
  cases cd with
  | bl c =>
    cases c with
    | true =>
      simp only [Option.bind_eq_some_iff, Prod.exists] at h3
      obtain ⟨yd, yw, E4, h4, h5⟩ := h3
      split at h5
      · rename_i hc
        simp only [Option.some.injEq, Prod.mk.injEq] at h5
        obtain ⟨rfl, rfl⟩ := h5
        have hc' : plain (esc elt (yd, yw) E4).1.1 = true ∨ shr = true ∨ (esc elt (yd, yw) E4).1.2 = .deep := by simpa [or_assoc] using hc
        exact ⟨E2, true, cw, E3, h1, h2, by simp only [if_true]; exact ⟨(yd, yw), E4, h4, hc', rfl, rfl⟩⟩
      · cases h5
    | false =>
      simp only [Option.some.injEq, Prod.mk.injEq] at h3
      exact ⟨E2, false, cw, E3, h1, h2, by simp only [Bool.false_eq_true, if_false]; exact ⟨h3.1.symm, h3.2.symm⟩⟩
  | _ => cases h3
theorem Chg.wiped {w : List Nat} {Z H Z' H' : Hp} {E E' : En} {Fs Fs' : List (List Addr)} (c : Chg w Z H E Fs Z' H' E' Fs') {is : List Nat} (hs : ∀ i ∈ is, i ∈ w) : Chg w Z H E Fs Z' H' (wipes is E') (wipeF Fs' is) := by
  refine ⟨c.le, c.zn, fun j a ha => ?_, c.frame, c.there, fun j hj => ?_⟩
  · by_cases h : j ∈ is
    · rw [wipeF_in h] at ha; cases ha
    · rw [wipeF_out h] at ha; exact c.fr j a ha
  · have hj' : j ∉ is := fun z => hj (hs j z)
    rw [wipes_out hj', wipeF_out hj']
    exact c.same j hj
theorem Chg.other {w : List Nat} {Z H Z' H' : Hp} {E E' : En} {Fs Fs' : List (List Addr)} (c : Chg w Z H E Fs Z' H' E' Fs') {q : Addr} {o : HO} (hq : H q = none ∨ WC Fs w q) : Chg w Z H E Fs Z' (upd H' q o) E' Fs' := by
  refine ⟨c.le, c.zn, c.fr, fun a u h n => ?_, fun a h => ?_, c.same⟩
  · have ne : a ≠ q := fun z => by
      subst z
      rcases hq with y | y
      · rw [y] at h; cases h
      · exact n y
    rw [upd_ne ne]
    exact c.frame a u h n
  · by_cases e : a = q
    · subst e; rw [upd_same]; exact fun z => by cases z
    · rw [upd_ne e]; exact c.there a h
abbrev lcW (tg : Tg) (elt cond : Ex) : List Nat := tgs tg ++ (wrx elt ++ wr cond)
theorem lc_se {J : It} {n : Nat} {G : Hp → Prop} {Y : Nat → Hp → V → Hp → Prop} (w : Walk J n G Y) {tg : Tg} {shr : Bool} {elt cond : Ex} {its acc : List D} {Z1 H1 : Hp} {E1 E2 : En} {σ : Sl} {Fs1 : List (List Addr)} {D0 : Addr} {Qd : Hp → Prop}
    (st : Stt B.K B.FA Z1 H1 E1 σ Fs1) (hk : keepable (tgs tg) E1 = true) (hn : n = its.length) (hl : its.length ≤ line) (he : compL (turnL B.Φ shr elt tg cond) its E1 [] = some (acc, E2))
    (hG : ∀ {H' Z' E' Fs'}, Chg (lcW tg elt cond) Z1 H1 E1 Fs1 Z' H' E' Fs' → Sub Z' H' → G H') (hY : Yld B.K B.FA its Z1 G Y) (hD : H1 D0 = none)
    (q : ∀ H' Z' Fd Fs', Pe B.K B.FA (lcW tg elt cond) none Z1 H1 E1 Fs1 σ (.lst acc, if shr && !plains acc then .top else .deep) (back (tgs tg) E1 E2) (.ref D0) Z' H' Fd Fs' → Qd H') :
    ∃ W : Nat → Nat → Hp → Prop, (∃ m, W 0 m (upd H1 D0 (.lst []))) ∧ ∀ i m H, W i m H → (J.stop i H ∧ Qd H) ∨ (J.go i H ∧ ∃ Nx : Hp → Prop, (∀ H', Nx H' → ∃ m', m' < m ∧ W (i + 1) m' H') ∧ ∀ x H', J.yld i H x H' → tgT B.K tg x (wipe σ (tgs tg)) H' fun σ2 H2 => wipe σ2 (tgs tg) = wipe σ (tgs tg) ∧ ST B cond σ2 H2 fun b H3 =>
      if b = true then SE B elt σ2 H3 fun y H4 => ∃ acc, H4 D0 = some (.lst acc) ∧ acc.length < sizeLine ∧ Nx (upd H4 D0 (.lst (acc ++ [y]))) else Nx H3) := by
  subst hn
  have lcmono : ∀ {w' : List Nat}, (∀ i ∈ w', i ∈ lcW tg elt cond) → ∀ i, i ∈ lcW tg elt cond ++ w' → i ∈ lcW tg elt cond := fun h i hi => (List.mem_append.mp hi).elim id (h i)
  refine lc_it w (fun i H => ∃ Z' E' Fs' ac vs G', Stt B.K B.FA Z' H (wipes (tgs tg) E') (wipe σ (tgs tg)) Fs' ∧ Chg (lcW tg elt cond) Z1 H1 E1 Fs1 Z' H (wipes (tgs tg) E') Fs' ∧ H D0 = some (.lst vs) ∧ Rs B.K B.FA Z' H (if shr then .sh else .deep) ac vs G' ∧
      ((D0 :: G') ++ Fs'.flatten).Nodup ∧ (∀ a ∈ D0 :: G', Z' a = none) ∧ (∀ a ∈ D0 :: G', H1 a = none ∨ WC Fs1 (lcW tg elt cond) a) ∧ compL (turnL B.Φ shr elt tg cond) (its.drop i) E' ac = some (acc, E2) ∧ ac.length ≤ i ∧ (∀ j ∈ tgs tg, Fs'.getD j [] = []))
    ?_ (fun i H _ ⟨Z', E', Fs', ac, vs, G', s', c', _⟩ => hG c' s'.sub) ?_ ?_
  · -- the start
    have sw := (st.laid (o := .lst []) hD).wiped (tgs tg)
    have hfl : ∀ j ∈ tgs tg, Fs1.getD j [] = [] := fun j hj => (keep_nil st hk j hj).2.1
    refine ⟨Z1, E1, wipeF Fs1 (tgs tg), [], [], [], sw, ⟨Le.refl _, fun a u h => .inl h, fun j a ha => ?_, fun a u h _ => upd_keep hD a u h, fun a h => ?_, fun j hj => ?_⟩, upd_same, ?_, ?_, fun a ha => ?_, fun a ha => ?_, he, Nat.le_refl _, fun j hj => wipeF_in hj⟩
    · by_cases hj : j ∈ tgs tg
      · rw [wipeF_in hj] at ha; cases ha
      · rw [wipeF_out hj] at ha; exact .inl ha
    · by_cases e : a = D0
      · rw [e, upd_same]; exact fun z => by cases z
      · rw [upd_ne e]; exact h
    · have hj' : j ∉ tgs tg := fun z => hj (List.mem_append_left _ z)
      exact ⟨wipes_out hj', wipeF_out hj'⟩
    · cases shr <;> exact ⟨rfl, rfl⟩
    · exact List.nodup_cons.mpr ⟨fun m => st.re.there (wipeF_sub.subset m) hD, sw.nd⟩
    · have e : a = D0 := by simpa using ha
      rw [e]
      exact st.sub.none hD
    · have e : a = D0 := by simpa using ha
      rw [e]
      exact .inl hD
  · -- a turn
    rintro i x H H2 hi ⟨Z', E', Fs', ac, vs, G', s', c', hd, hr, nd, zf, fr, e', hlen, hfl⟩ hy
    obtain ⟨d, hdi⟩ : ∃ d, its[i]? = some d := ⟨_, List.getElem?_eq_getElem hi⟩
    obtain ⟨Zn, s2, c2, r2⟩ := hY i d x H H2 Z' hdi c'.le (hG c' s'.sub) hy (wipes (tgs tg) E') (wipe σ (tgs tg)) Fs' s'
    rw [List.drop_eq_getElem_cons hi] at e'
    have ed : its[i] = d := by
      rw [List.getElem?_eq_getElem hi] at hdi
      exact Option.some.inj hdi
    rw [ed] at e'
    simp only [compL] at e'
    cases et : turnL B.Φ shr elt tg cond (shv d) E' with
    | none => rw [et] at e'; cases e'
    | some rr =>
      obtain ⟨r, Et⟩ := rr
      rw [et] at e'
      obtain ⟨Eb, cb, cw, Ec, hb, hc, hrest⟩ := turnL_inv et
      -- what is made so far stands aside
      have aside : ∀ {wz : List Nat} {Zz Hz : Hp} {Ez : En} {Fz : List (List Addr)}, Chg wz Z' H (wipes (tgs tg) E') Fs' Zz Hz Ez Fz → (∀ a ∈ D0 :: G', Hz a = H a) ∧ (∀ a ∈ D0 :: G', Zz a = none) ∧ (∀ a ∈ D0 :: G', a ∉ Fz.flatten) := fun {wz Zz Hz Ez Fz} c => by
        have out : ∀ a ∈ D0 :: G', a ∉ Fs'.flatten := fun a ha hb => (List.nodup_append.mp nd).2.2 a ha a hb rfl
        have th : ∀ a ∈ D0 :: G', H a ≠ none := fun a ha z => by
          rcases List.mem_cons.mp ha with rfl | ha
          · rw [hd] at z; cases z
          · exact Rs_there ac hr ha z
        refine ⟨fun a ha => ?_, fun a ha => ?_, fun a ha hb => ?_⟩
        · cases e : H a with
          | none => exact absurd e (th a ha)
          | some u => exact c.frame a u e fun z => out a ha z.flat
        · cases e : Zz a with
          | none => rfl
          | some u =>
            rcases c.zn a u e with z | z | z
            · rw [zf a ha] at z; cases z
            · exact absurd z (out a ha)
            · exact absurd z (th a ha)
        · rcases c.flat hb with z | z
          · exact out a ha z
          · exact th a ha z
      have pe : Pe B.K B.FA (lcW tg elt cond) none Z1 H1 E1 Fs1 (wipe σ (tgs tg)) (shv d) (wipes (tgs tg) E') x Zn H2 [] Fs' :=
        ⟨s2, (c'.trans c2).mono fun i hi => (by simpa using hi), r2, fun _ => ⟨by simpa using s2.nd, fun _ m => (by cases m), fun _ m => (by cases m)⟩, fun _ _ z => (by cases z)⟩
      have pe' : Pe B.K B.FA [] none Z' H (wipes (tgs tg) E') Fs' (wipe σ (tgs tg)) (shv d) (wipes (tgs tg) E') x Zn H2 [] Fs' :=
        ⟨s2, c2, r2, fun _ => ⟨by simpa using s2.nd, fun _ m => (by cases m), fun _ m => (by cases m)⟩, fun _ _ z => (by cases z)⟩
      refine bind_ok pe' hb fun σ3 Fs3 s3 c3 g3 => ?_
      have ew : wipe σ3 (tgs tg) = wipe σ (tgs tg) := by
        have l3 := s3.re.length
        have l2 := s2.re.length
        have lb : Eb.length = (wipes (tgs tg) E').length := by
          have : ∀ (is : List Nat) (ds : List D) (w : Ow) (E E2 : En), binds is ds w E = some E2 → E2.length = E.length := fun is => by
            induction is with
            | nil => intro ds w E E2 h; cases ds <;> simp [binds] at h; rw [h]
            | cons i is ih => intro ds w E E2 h; cases ds with
              | nil => simp [binds] at h
              | cons d ds => simp only [binds] at h; rw [ih _ _ _ _ h]; simp
          cases tg with
          | v i => simp only [bindT, Option.some.injEq] at hb; rw [← hb]; simp
          | t is =>
            generalize shv d = sd at hb
            obtain ⟨sd, sw⟩ := sd
            cases sd with
            | tup ds =>
              simp [bindT] at hb
              exact this _ _ _ _ _ hb.2
            | lst ds =>
              simp [bindT] at hb
              exact this _ _ _ _ _ hb.2
            | _ => simp [bindT] at hb
        refine wipe_eq ?_ fun j hj => g3 j hj
        have := wipe_length σ (tgs tg)
        omega
      refine ⟨ew, Zn, Eb, Fs3, cb, cw, Ec, s3, hc, fun H3 Z3 Fs4 s4 c4 => ?_⟩
      have c34 := c3.trans c4
      have subT : ∀ j ∈ tgs tg, j ∈ lcW tg elt cond := fun j hj => List.mem_append_left _ hj
      have subc : ∀ j, j ∈ (tgs tg ++ []) ++ wr cond → j ∈ lcW tg elt cond := fun j hj => by
        simp only [List.append_nil, List.mem_append] at hj ⊢
        rcases hj with z | z
        · exact .inl z
        · exact .inr (.inr z)
      cases cb with
      | false =>
        simp only [Bool.false_eq_true, if_false] at hrest ⊢
        obtain ⟨rfl, rfl⟩ := hrest
        simp only at e'
        obtain ⟨k1, k2, k3⟩ := aside c34
        have sw := s4.wiped (tgs tg)
        rw [ew] at sw
        refine ⟨Z3, Et, wipeF Fs4 (tgs tg), ac, vs, G', sw, ((c'.trans c34).mono (lcmono subc)).wiped subT, (k1 D0 List.mem_cons_self).trans hd, Rs_keep c34.le _ (fun a ha => k1 a (List.mem_cons_of_mem _ ha)) hr, ?_, k2, fr, e', Nat.le_succ_of_le hlen, fun j hj => wipeF_in hj⟩
        refine List.nodup_append.mpr ⟨(List.nodup_append.mp nd).1, sw.nd, fun a ha b hb => ?_⟩
        rintro rfl
        exact k3 a ha (wipeF_sub.subset hb)
      | true =>
        simp only [if_true] at hrest ⊢
        obtain ⟨y, E4, h4, hfl2, rfl, rfl⟩ := hrest
        simp only at e'
        refine se_x ⟨Z3, Ec, Fs4, y, E4, s4, h4, fun v H4 Z4 Fd Fs5 p => ?_⟩
        have c35 := c34.trans p.ch
        have sub5 : ∀ j, j ∈ ((tgs tg ++ []) ++ wr cond) ++ wrx elt → j ∈ lcW tg elt cond := fun j hj => by
          simp only [List.append_nil, List.mem_append] at hj ⊢
          rcases hj with (z | z) | z
          · exact .inl z
          · exact .inr (.inr z)
          · exact .inr (.inl z)
        have cAll := (c'.trans c35).mono (lcmono sub5)
        obtain ⟨k1, k2, k3⟩ := aside c35
        obtain ⟨pn, pz, pf⟩ := p.ex rfl
        have fdd : ∀ a ∈ Fd, H1 a = none ∨ WC Fs1 (lcW tg elt cond) a := fun a ha => by
          have c14 := (c'.trans c34).mono (lcmono subc)
          rcases pf a ha with z | z
          · exact .inl (c14.free z)
          · exact ((c14.wc z).imp (fun w => w.mono fun i hi => (List.mem_append.mp hi).elim id fun z => List.mem_append_right _ (List.mem_append_left _ z)) id).symm
        -- the new part's cells are not those of the old ones
        have fdnew : ∀ a ∈ D0 :: G', a ∉ Fd := fun a ha hb => by
          obtain ⟨l1, l2, l3⟩ := aside c34
          have th : H3 a ≠ none := by
            rw [l1 a ha]
            intro z
            rcases List.mem_cons.mp ha with rfl | ha
            · rw [hd] at z; cases z
            · exact Rs_there ac hr ha z
          rcases pf a hb with z | z
          · exact th z
          · exact l3 a ha z.flat
        refine ⟨vs, (k1 D0 List.mem_cons_self).trans hd, ?_, ?_⟩
        · rw [Rs_len hr]
          exact Nat.lt_of_le_of_lt hlen (Nat.lt_of_lt_of_le hi hl)
        · have hr4 : Rs B.K B.FA Z4 H4 (if shr = true then .sh else .deep) ac vs G' := Rs_keep c35.le _ (fun a ha => k1 a (List.mem_cons_of_mem _ ha)) hr
          have fin : ∀ (Z5 : Hp) (Fy : List Addr), Le Z4 Z5 → Stt B.K B.FA Z5 H4 (esc elt y E4).2 σ3 Fs5 → Chg (lcW tg elt cond) Z1 H1 E1 Fs1 Z5 H4 (esc elt y E4).2 Fs5 → R B.K B.FA Z5 H4 (if shr = true then .sh else .deep) (esc elt y E4).1.1 v Fy → (Fy ++ Fs5.flatten).Nodup → (∀ a ∈ Fy, Z5 a = none) → (∀ a ∈ Fy, a ∈ Fd) → (∀ a ∈ D0 :: G', Z5 a = none) →
              ∃ Z' E' Fs' ac vs' G', Stt B.K B.FA Z' (upd H4 D0 (.lst (vs ++ [v]))) (wipes (tgs tg) E') (wipe σ (tgs tg)) Fs' ∧ Chg (lcW tg elt cond) Z1 H1 E1 Fs1 Z' (upd H4 D0 (.lst (vs ++ [v]))) (wipes (tgs tg) E') Fs' ∧ (upd H4 D0 (.lst (vs ++ [v]))) D0 = some (.lst vs') ∧ Rs B.K B.FA Z' (upd H4 D0 (.lst (vs ++ [v]))) (if shr = true then .sh else .deep) ac vs' G' ∧
              ((D0 :: G') ++ Fs'.flatten).Nodup ∧ (∀ a ∈ D0 :: G', Z' a = none) ∧ (∀ a ∈ D0 :: G', H1 a = none ∨ WC Fs1 (lcW tg elt cond) a) ∧ compL (turnL B.Φ shr elt tg cond) (its.drop (i + 1)) E' ac = some (acc, E2) ∧ ac.length ≤ i + 1 ∧ (∀ j ∈ tgs tg, Fs'.getD j [] = []) := fun Z5 Fy le5 s5 c5 ry n5 z5 fy kz => by
            have so := (s5.other (o := .lst (vs ++ [v])) (k3 D0 List.mem_cons_self) (kz D0 List.mem_cons_self)).wiped (tgs tg)
            rw [ew] at so
            have neD : ∀ a ∈ G' ++ Fy, a ≠ D0 := fun a ha z => by
              subst z
              rcases List.mem_append.mp ha with m | m
              · exact (List.nodup_cons.mp (List.nodup_append.mp nd).1).1 m
              · exact fdnew a List.mem_cons_self (fy a m)
            refine ⟨Z5, _, wipeF Fs5 (tgs tg), ac ++ [(esc elt y E4).1.1], vs ++ [v], G' ++ Fy, so, (c5.other (fr D0 List.mem_cons_self)).wiped subT, upd_same, ?_, ?_, fun a ha => ?_, fun a ha => ?_, e', by simp; omega, fun j hj => wipeF_in hj⟩
            · refine Rs_keep (H := H4) (Le.refl _) _ (fun a ha => upd_ne (neD a ha)) (Rs_app (Rs_keep le5 _ (fun _ _ => rfl) hr4) ⟨v, [], Fy, [], rfl, ry, ⟨rfl, rfl⟩, by simp⟩)
            · have n0 := (List.nodup_append.mp nd).1
              refine List.nodup_append.mpr ⟨?_, so.nd, fun a ha b hb => ?_⟩
              · refine List.nodup_cons.mpr ⟨fun m => neD D0 m rfl, List.nodup_append.mpr ⟨(List.nodup_cons.mp n0).2, (List.nodup_append.mp n5).1, fun a ha b hb => ?_⟩⟩
                rintro rfl
                exact fdnew a (List.mem_cons_of_mem _ ha) (fy a hb)
              · rintro rfl
                have hb' := wipeF_sub.subset hb
                rcases List.mem_cons.mp ha with rfl | ha
                · exact k3 a List.mem_cons_self hb'
                · rcases List.mem_append.mp ha with m | m
                  · exact k3 a (List.mem_cons_of_mem _ m) hb'
                  · exact (List.nodup_append.mp n5).2.2 a m a hb' rfl
            · rcases List.mem_cons.mp ha with rfl | ha
              · exact kz a List.mem_cons_self
              · rcases List.mem_append.mp ha with m | m
                · exact kz a (List.mem_cons_of_mem _ m)
                · exact z5 a m
            · rcases List.mem_cons.mp ha with rfl | ha
              · exact fr a List.mem_cons_self
              · rcases List.mem_append.mp ha with m | m
                · exact fr a (List.mem_cons_of_mem _ m)
                · exact fdd a (fy a m)
          cases shr with
          | true =>
            have out : ∀ a ∈ Fd, a ∉ Fs5.flatten := fun a ha hb => (List.nodup_append.mp pn).2.2 a ha a hb rfl
            refine fin (zadd Z4 H4 Fd) [] (zadd_le pz) (p.st.zadd pz out) (cAll.zadd pz fdd) (R_share (zadd_le pz) _ (fun a ha => zadd_in ha) p.val) (by simpa using p.st.nd) (fun _ m => (by cases m)) (fun _ m => (by cases m)) fun a ha => ?_
            rw [zadd_out (fdnew a ha)]
            exact k2 a ha
          | false =>
            cases hpl : plain (esc elt y E4).1.1 with
            | true =>
              obtain ⟨e0, kr⟩ := R_plain _ hpl p.val
              exact fin Z4 [] (Le.refl _) p.st cAll (kr _ _) (by simpa using p.st.nd) (fun _ m => (by cases m)) (fun _ m => (by cases m)) k2
            | false =>
              have hdeep : (esc elt y E4).1.2 = .deep := by
                rcases hfl2 with z | z | z
                · rw [hpl] at z; cases z
                · cases z
                · exact z
              have pv := p.val
              rw [hdeep] at pv
              exact fin Z4 Fd (Le.refl _) p.st cAll pv pn pz (fun a ha => ha) k2
  · -- the end
    rintro H ⟨Z', E', Fs', ac, vs, G', s', c', hd, hr, nd, zf, fr, e', hlen, hfl⟩
    rw [List.drop_length] at e'
    simp only [compL, Option.some.injEq, Prod.mk.injEq] at e'
    obtain ⟨rfl, rfl⟩ := e'
    have sb := Stt.backed st hk c'.le s' hfl
    have eb : back (tgs tg) E1 (wipes (tgs tg) E') = back (tgs tg) E1 E' := by
      apply List.ext_getElem?
      intro j
      by_cases hj : j ∈ tgs tg
      · by_cases hl2 : j < E'.length
        · rw [back_in hj (by rw [wipes_len]; exact hl2), back_in hj hl2]
        · rw [List.getElem?_eq_none (by rw [back_len, wipes_len]; omega), List.getElem?_eq_none (by rw [back_len]; omega)]
      · rw [back_out hj, back_out hj, wipes_out hj]
    rw [eb] at sb
    have cb : Chg (lcW tg elt cond) Z1 H1 E1 Fs1 Z' H (back (tgs tg) E1 E') Fs' := by
      refine ⟨c'.le, c'.zn, c'.fr, c'.frame, c'.there, fun j hj => ?_⟩
      have hj' : j ∉ tgs tg := fun z => hj (List.mem_append_left _ z)
      obtain ⟨x1, x2⟩ := c'.same j hj
      rw [back_out hj']
      rw [wipes_out hj'] at x1
      exact ⟨x1, x2⟩
    have hout : ∀ a ∈ D0 :: G', a ∉ Fs'.flatten := fun a ha hb => (List.nodup_append.mp nd).2.2 a ha a hb rfl
    have top : ∀ (w' : Ow) (G2 : List Addr), w' ≠ .sh → Rs B.K B.FA Z' H (kid w') ac vs G2 → (∀ a ∈ G2, a ∈ G') → G2.Nodup → Pe B.K B.FA (lcW tg elt cond) none Z1 H1 E1 Fs1 σ (.lst ac, w') (back (tgs tg) E1 E') (.ref D0) Z' H (D0 :: G2) Fs' := fun w' G2 hw rr hs hn2 => by
      refine ⟨sb, cb, ⟨D0, vs, G2, rfl, ?_, rr, ?_⟩, fun _ => ⟨?_, fun a ha => zf a ?_, fun a ha => fr a ?_⟩, fun _ _ z => (by cases z)⟩
      · cases w'
        · exact absurd rfl hw
        · exact hd
        · exact hd
      · cases w'
        · exact absurd rfl hw
        · rfl
        · rfl
      · have n0 := (List.nodup_append.mp nd).1
        refine List.nodup_append.mpr ⟨List.nodup_cons.mpr ⟨fun m => (List.nodup_cons.mp n0).1 (hs _ m), hn2⟩, s'.nd, fun a ha b hb => ?_⟩
        rintro rfl
        refine hout a ?_ hb
        rcases List.mem_cons.mp ha with rfl | ha
        · exact List.mem_cons_self
        · exact List.mem_cons_of_mem _ (hs a ha)
      · rcases List.mem_cons.mp ha with rfl | ha
        · exact List.mem_cons_self
        · exact List.mem_cons_of_mem _ (hs a ha)
      · rcases List.mem_cons.mp ha with rfl | ha
        · exact List.mem_cons_self
        · exact List.mem_cons_of_mem _ (hs a ha)
    have n0 := (List.nodup_cons.mp (List.nodup_append.mp nd).1).2
    cases shr with
    | false =>
      exact q H Z' _ Fs' (top .deep G' (by decide) hr (fun a ha => ha) n0)
    | true =>
      cases hpl : plains ac with
      | true =>
        rw [hpl] at q
        exact q H Z' _ Fs' (top .deep [] (by decide) ((Rs_plain ac hpl hr).2 _ _) (fun _ m => (by cases m)) List.nodup_nil)
      | false =>
        rw [hpl] at q
        have hr' : Rs B.K B.FA Z' H .sh ac vs G' := hr
        have e0 := Rs_sh ac hr'
        subst e0
        exact q H Z' _ Fs' (top .top [] (by decide) hr' (fun _ m => (by cases m)) List.nodup_nil)
end
end BS

set_option Elab.async false
set_option linter.all false
set_option maxRecDepth 100000
set_option maxHeartbeats 2000000
namespace BS
open PySem PySem.Spec PyProof.Rows L2
section
variable {X : Cx} {B : Bk} {pos p pos' : Pos} {ee ef eg tgE eltE : Expr} {e f g elt cond : Ex} {T : Tg} {shr : Bool}
theorem ev_comp {Φ : Phi} {k : Ik} {es : List Ex} {E E' : En} {x : Val} (h : ev Φ (.comp shr elt T k es cond) E = some (x, E')) : ∃ xs E1 its acc E2, (match k with | .rng => evs Φ es E | .zip => evs Φ es E | _ => evit Φ (lcW T elt cond) es E) = some (xs, E1) ∧ items k (ds xs) = some its ∧ its.length ≤ line ∧ keepable (tgs T) E1 = true ∧
    compL (turnL Φ shr elt T cond) its E1 [] = some (acc, E2) ∧ x = (.lst acc, if shr && !plains acc then .top else .deep) ∧ E' = back (tgs T) E1 E2 := by
  simp only [ev, Option.bind_eq_bind, Option.bind_eq_some_iff, Prod.exists] at h
  obtain ⟨xs, E1, h1, its, h2, h3⟩ := h
  split at h3
  · rename_i hc
    simp only [Option.bind_eq_some_iff, Prod.exists] at h3
    obtain ⟨acc, E2, h4, h5⟩ := h3
    simp only [Option.some.injEq, Prod.mk.injEq] at h5
    obtain ⟨rfl, rfl⟩ := h5
    exact ⟨xs, E1, its, acc, E2, h1, h2, hc.1, hc.2, h4, rfl, rfl⟩
  · cases h3

theorem comp_post {k : Ik} {es : List Ex} {Z H Z2 H2 : Hp} {E E2 E' : En} {Fs Fs2 : List (List Addr)} {σ : Sl} {x : Val} {Q : VK} (kk : ∀ v H' Z' Fd Fs', Pe B.K B.FA (wr (.comp shr elt T k es cond)) (pr (.comp shr elt T k es cond)) Z H E Fs σ x E' v Z' H' Fd Fs' → Q v H')
    (c : Chg (wrs es) Z H E Fs Z2 H2 E2 Fs2) {D0 : Addr} : ∀ H' Z' Fd Fs', Pe B.K B.FA (lcW T elt cond) none Z2 H2 E2 Fs2 σ x E' (.ref D0) Z' H' Fd Fs' → Q (.ref D0) H' := by
  intro H' Z' Fd Fs' q
  have sub : ∀ i, i ∈ wrs es ++ lcW T elt cond → i ∈ wr (.comp shr elt T k es cond) := fun i hi => by
    have e1 : wr (.comp shr elt T k es cond) = tgs T ++ (((if isPl elt then [root elt] else []) ++ wr elt) ++ (wrs es ++ wr cond)) := by
      cases T <;> simp [wr, tgs]
    rw [e1]
    simp only [wrx, List.mem_append] at hi ⊢
    rcases hi with z | z | z | z
    · exact .inr (.inr (.inl z))
    · exact .inl z
    · exact .inr (.inl z)
    · exact .inr (.inr (.inr z))
  refine kk _ H' Z' Fd Fs' ⟨q.st, (c.trans q.ch).mono sub, q.val, fun _ => ?_, fun _ _ z => (by simp [pr] at z)⟩
  obtain ⟨n1, n2, n3⟩ := q.ex rfl
  refine ⟨n1, n2, fun z hz => ?_⟩
  rcases n3 z hz with y | y
  · exact .inl (c.free y)
  · exact ((c.wc y).imp (fun w => w.mono sub) id).symm
abbrev iOf (K : PySem.W.Frag) (te : TE) : TI := fun σ H R => iList K te σ H R ∨ (iTup K te σ H R ∨ iStr te σ H R)
theorem lc_of {σ : Sl} {H : Hp} {Q : VK} (h : SE B (.comp shr elt T .of [e] cond) σ H Q) : tLc (iOf B.K (SE B e)) (tgT B.K T) (ST B cond) (SE B elt) (tgs T) σ H Q := by
  obtain ⟨Z, E, Fs, x', E', s, hx, kk⟩ := h
  obtain ⟨xs, E1', its, acc, E2, h1, h2, h3, h4, h5, rfl, rfl⟩ := ev_comp hx
  obtain ⟨x, E1, h0, hcase⟩ := evit1 h1
  have key : ∀ {R2 : V → Hp → Prop}, (∀ v H1 Z2 Fs2, Stt B.K B.FA Z2 H1 E1' σ Fs2 → Chg (wrs [e]) Z H E Fs Z2 H1 E1' Fs2 → ds xs = [x.1] →
      (∀ ys, x.1 = .lst ys → ∃ q vs, v = .ref q ∧ SrcL B.K B.FA (lcW T elt cond) Z2 H1 E1' Fs2 ys q vs) →
      (∀ ys, x.1 = .tup ys → ∃ q vs, v = .ref q ∧ Z2 q = some (.tup vs) ∧ Items B.K B.FA Z2 ys vs) →
      (∀ s, x.1 = .str s → v = .str s ∧ s.length ≤ line ∧ PyData.strOk s = true) → R2 v H1) → SE B e σ H R2 := fun {R2} k => by
    refine ⟨Z, E, Fs, x, E1, s, h0, fun v H1 Z1 Fd Fs1 p => ?_⟩
    obtain ⟨Z2, Fs2, s2, c2, d2, l2, t2, st2, _⟩ := p.src hcase
    exact k v H1 Z2 Fs2 s2 (c2.mono (wrs1 e)) d2 l2 t2 st2
  cases hd : x.1 with
  | lst ys =>
    refine .inl (key fun v H1 Z2 Fs2 s2 c2 d2 l2 t2 st2 => ?_)
    rw [hd] at d2
    rw [d2] at h2
    simp only [items, Option.some.injEq] at h2
    subst h2
    obtain ⟨a, vs, rfl, src⟩ := l2 ys hd
    have hq : H1 a = some (.lst vs) := src.stand (Chg.refl _ _ _ _ _) s2.sub
    refine ⟨a, rfl, ⟨vs, SqL.of hq⟩, fun D0 hD => ?_⟩
    exact lc_se (walk_list (K := B.K) (a := a) (xs := vs)) s2 h4 src.it.len h3 h5 (fun {H' Z' E' Fs'} c s' => SqL.of (src.stand c s')) (yld_at src.it) hD (comp_post kk c2)
  | tup ys =>
    refine .inr (.inl (key fun v H1 Z2 Fs2 s2 c2 d2 l2 t2 st2 => ?_))
    rw [hd] at d2
    rw [d2] at h2
    simp only [items, Option.some.injEq] at h2
    subst h2
    obtain ⟨a, vs, rfl, hq, it⟩ := t2 ys hd
    refine ⟨a, rfl, ⟨vs, SqT.of (tup_sub s2.sub hq)⟩, fun D0 hD => ?_⟩
    exact lc_se (walk_tup (K := B.K) (a := a) (xs := vs)) s2 h4 it.len h3 h5 (fun {H' Z' E' Fs'} c s' => SqT.of (tup_sub s' (c.le a _ hq))) (yld_at it) hD (comp_post kk c2)
  | str z =>
    refine .inr (.inr (key fun v H1 Z2 Fs2 s2 c2 d2 l2 t2 st2 => ?_))
    rw [hd] at d2
    rw [d2] at h2
    simp only [items, Option.some.injEq] at h2
    subst h2
    obtain ⟨rfl, hl, hok⟩ := st2 z hd
    refine ⟨z, rfl, fun D0 hD => ?_⟩
    refine lc_se (walk_str (z := z)) s2 h4 (by simp [chars]) h3 h5 (fun {H' Z' E' Fs'} c s' => trivial) ?_ hD (comp_post kk c2)
    intro i d x H H' Z hd le _ hy E σ Fs st
    obtain ⟨rfl, c, hc, rfl⟩ := hy
    have e0 : d = .str ⟨#[c]⟩ := by
      have : (chars z)[i]? = some (.str ⟨#[c]⟩) := by
        unfold chars
        rw [List.getElem?_map]
        have : z.cps.toList[i]? = some c := by simpa using hc
        rw [this]
        rfl
      rw [this] at hd
      exact (Option.some.inj hd).symm
    subst e0
    have hcm : c ∈ z.cps.toList := List.mem_of_getElem? (i := i) (by simpa using hc)
    exact ⟨Z, st, Chg.refl _ _ _ _ _, ⟨rfl, (by decide : 1 ≤ 16777216), strOk_one (strOk_iff.mp hok c hcm)⟩, rfl⟩
  | _ =>
    exfalso
    have d2 : ds xs = [x.1] := by
      rcases hcase with ⟨_, _, _, _, rfl, _⟩ | ⟨rfl, _⟩
      · rfl
      · have ec : (BS.esc e x E1).1.1 = x.1 := by unfold BS.esc; split <;> rfl
        simp [ds, ec]
    rw [d2, hd] at h2
    simp [items] at h2

theorem pts_if {c : Expr} (h : PT X c (ST B cond)) : PTs X [c] (ST B cond) := pts_one h
variable {scope : Scope} {ifs : List Expr}
abbrev BlkPG (X : Cx) (scope : Scope) (tg : Expr) (g : TG) : Prop := ∀ (s : Shared) (H : Hp) (C : Addr) (cl : List (Str × Addr)) (fp : List Addr), PG (X.blk s H scope (compEnvC scope cl C X.env) fp) tg g
abbrev BlkPT (X : Cx) (scope : Scope) (ifs : List Expr) (t : TT) : Prop := ∀ (s : Shared) (H : Hp) (C : Addr) (cl : List (Str × Addr)) (fp : List Addr), PTs (X.blk s H scope (compEnvC scope cl C X.env) fp) ifs t
abbrev BlkPE (X : Cx) (scope : Scope) (e : Expr) (t : TE) : Prop := ∀ (s : Shared) (H : Hp) (C : Addr) (cl : List (Str × Addr)) (fp : List Addr), PE (X.blk s H scope (compEnvC scope cl C X.env) fp) e t
structure Src (X : Cx) (B : Bk) (tgE iter : Expr) (T : Tg) (k : Ik) (es : List Ex) (wi : TI) : Prop where
  pi : PI X tgE iter wi
  lc : ∀ {shr : Bool} {elt cond : Ex} {σ : Sl} {H : Hp} {Q : VK}, SE B (.comp shr elt T k es cond) σ H Q → tLc wi (tgT B.K T) (ST B cond) (SE B elt) (tgs T) σ H Q
theorem src_of (he : PE X ee (SE B e)) (hK : X.K = B.K := by rfl) : Src X B tgE ee T .of [e] (iOf B.K (SE B e)) := ⟨hK ▸ (pi_list he).or ((pi_tup he).or (pi_str he)), lc_of⟩
end
end BS

set_option Elab.async false
set_option linter.all false
set_option maxRecDepth 100000
set_option maxHeartbeats 2000000
namespace BS
open PySem PySem.Spec PyProof.Rows L2

section
variable {K : PySem.W.Frag} {FA : Nat → Addr → Prop} {Z Z' H H' : Hp}

theorem Pes.changeL {w : List Nat} {Z0 H0 : Hp} {E0 E : En} {Fs0 Fs : List (List Addr)} {σ : Sl} {xs : List Val} {us : List V} {Fds : List (List Addr)} {i : Nat} {q : Addr} {d' : D} {w1 w2 : Ow} {G : List Addr} {o : HO} {own : Bool}
    (p : Pes K FA w Z0 H0 E0 Fs0 σ xs E us Z H Fds Fs) (hσ : σ[i]? = some (some (.ref q))) (hF : Fs.getD i [] = q :: G) (hH : H q ≠ none) (hw2 : w2 = if own = true then w1 else .top) (hown : own = allDeep xs)
    (mk : (w1 = .deep ∧ own = true → ∃ G' L, (G' ++ L).Perm (G ++ Fds.flatten) ∧ R K FA Z (upd H q o) .deep d' (.ref q) (q :: G')) ∧ (w1 ≠ .deep ∨ own = false → R K FA (zadd Z H (G ++ Fds.flatten)) (upd H q o) .top d' (.ref q) [q]))
    (hw1 : w1 ≠ .sh) :
    ∃ Z' Fs', Stt K FA Z' (upd H q o) (E.set i (some (d', w2))) σ Fs' ∧ Chg (i :: w) Z0 H0 E0 Fs0 Z' (upd H q o) (E.set i (some (d', w2))) Fs' ∧ Le Z Z' := by
  have ndAll := p.nd
  have inF : ∀ a, a ∈ q :: G → a ∈ Fs.flatten := fun a ha => mem_flat (i := i) (by rw [hF]; exact ha)
  have nself : (q :: G).Nodup := by
    have := self_perm (Fs := Fs) (i := i)
    rw [hF] at this
    exact (List.nodup_append.mp (this.nodup_iff.mp p.st.nd)).1
  have out : ∀ a ∈ Fds.flatten, a ∉ Fs.flatten := fun a ha hb => (List.nodup_append.mp ndAll).2.2 a ha a hb rfl
  have othr : ∀ a ∈ (Fs.set i []).flatten, a ∉ q :: G := fun a ha hb => by
    have := self_perm (Fs := Fs) (i := i)
    rw [hF] at this
    exact (List.nodup_append.mp (this.nodup_iff.mp p.st.nd)).2.2 a hb a ha rfl
  have hil : i < Fs.length := by
    rw [p.st.re.length.2]
    exact (List.getElem?_eq_some_iff.mp hσ).1
  -- the other slots
  have rest : ∀ {Zz : Hp} {x : Option Val} {F : List Addr}, Le Z Zz → RO K FA Zz (upd H q o) x (some (.ref q)) F → RE K FA Zz (upd H q o) (E.set i x) σ (Fs.set i F) := fun {Zz x F} le ro => by
    have r0 : RE K FA Z H (E.set i none) σ (Fs.set i []) := p.st.re.turn hσ (show RO K FA Z H none (some (.ref q)) [] from rfl)
    have r1 := RE.keep (H' := upd H q o) le (fun a ha => upd_ne fun z => othr a ha (by rw [z]; exact List.mem_cons_self)) r0
    have r2 := r1.turn hσ ro
    rwa [List.set_set, List.set_set] at r2
  have chg : ∀ {Zz : Hp} {x : Option Val} {F : List Addr}, Le Z Zz → (∀ a u, Zz a = some u → Z a = some u ∨ a ∈ Fs.flatten ∨ a ∈ Fds.flatten) → (∀ a ∈ F, a ∈ q :: G ∨ a ∈ Fds.flatten) → Chg (i :: w) Z0 H0 E0 Fs0 Zz (upd H q o) (E.set i x) (Fs.set i F) := fun {Zz x F} le zn hf => by
    refine ⟨p.ch.le.trans le, fun a u e => ?_, fun j a ha => ?_, fun a u h n => ?_, fun a h => ?_, fun j hj => ?_⟩
    · rcases zn a u e with z | z | z
      · exact p.ch.zn a u z
      · rcases p.ch.flat z with y | y
        · exact .inr (.inl y)
        · exact .inr (.inr y)
      · rcases p.fd a z with y | y
        · exact .inr (.inr y)
        · exact .inr (.inl y.flat)
    · rcases getD_set ha with ⟨rfl, z⟩ | ⟨_, z⟩
      · rcases hf a z with y | y
        · exact (p.ch.fr i a (by rw [hF]; exact y)).imp id (Or.imp id fun y => y.mono fun k hk => List.mem_cons_of_mem _ hk)
        · exact .inr ((p.fd a y).imp id fun y => y.mono fun k hk => List.mem_cons_of_mem _ hk)
      · exact (p.ch.fr j a z).imp id (Or.imp id fun y => y.mono fun k hk => List.mem_cons_of_mem _ hk)
    · have ne : a ≠ q := fun z => by
        subst z
        rcases p.ch.fr i a (by rw [hF]; exact List.mem_cons_self) with y | y | y
        · exact n ⟨i, List.mem_cons_self, y⟩
        · rw [y] at h; cases h
        · exact n (y.mono fun k hk => List.mem_cons_of_mem _ hk)
      rw [upd_ne ne]
      exact p.ch.frame a u h fun z => n (z.mono fun k hk => List.mem_cons_of_mem _ hk)
    · by_cases e : a = q
      · rw [e, upd_same]; exact fun z => by cases z
      · rw [upd_ne e]; exact p.ch.there a h
    · have ne : i ≠ j := fun z => hj (by rw [z]; exact List.mem_cons_self)
      rw [List.getElem?_set_ne ne, getD_set_ne ne]
      exact p.ch.same j fun z => hj (List.mem_cons_of_mem _ z)
  have subq : ∀ {Zz : Hp}, Sub Zz H → Zz q = none → Sub Zz (upd H q o) := fun {Zz} s hz a u e => by
    have ne : a ≠ q := fun z => by rw [z, hz] at e; cases e
    rw [upd_ne ne]
    exact s a u e
  have zq : Z q = none := p.st.zf q (inF q List.mem_cons_self)
  by_cases hd : w1 = .deep ∧ own = true
  · obtain ⟨G', L, hp, hr⟩ := mk.1 hd
    have e2 : w2 = .deep := by rw [hw2, if_pos hd.2, hd.1]
    rw [e2]
    have subG : ∀ a ∈ G', a ∈ G ∨ a ∈ Fds.flatten := fun a ha => by
      have := hp.mem_iff.mp (List.mem_append_left L ha)
      exact List.mem_append.mp this
    have nG : ((q :: G') ++ (Fs.set i []).flatten).Nodup := by
      have big : ((q :: (G ++ Fds.flatten)) ++ (Fs.set i []).flatten).Nodup := by
        have e1 : (Fds.flatten ++ Fs.flatten).Perm ((q :: (G ++ Fds.flatten)) ++ (Fs.set i []).flatten) := by
          have s := self_perm (Fs := Fs) (i := i)
          rw [hF] at s
          refine (List.Perm.append_left _ s).trans ?_
          rw [← List.append_assoc]
          refine List.Perm.append_right _ ?_
          exact List.perm_append_comm
        exact e1.nodup_iff.mp ndAll
      have big2 : ((q :: (G' ++ L)) ++ (Fs.set i []).flatten).Nodup := by
        have : ((q :: (G' ++ L)) ++ (Fs.set i []).flatten).Perm ((q :: (G ++ Fds.flatten)) ++ (Fs.set i []).flatten) := List.Perm.append_right _ (List.Perm.cons q hp)
        exact this.nodup_iff.mpr big
      refine big2.sublist (List.Sublist.append_right (List.Sublist.cons_cons q (List.sublist_append_left _ _)) _)
    refine ⟨Z, Fs.set i (q :: G'), ⟨subq p.st.sub zq, rest (Le.refl _) hr, ?_, fun a ha => ?_⟩, chg (Le.refl _) (fun a u h => .inl h) (fun a ha => ?_), Le.refl _⟩
    · exact (set_perm hil).nodup_iff.mpr nG
    · rcases List.mem_append.mp ((set_perm hil).mem_iff.mp ha) with m | m
      · rcases List.mem_cons.mp m with rfl | m
        · exact zq
        · rcases subG a m with y | y
          · exact p.st.zf a (inF a (List.mem_cons_of_mem _ y))
          · exact p.zf a y
      · exact p.st.zf a (mem_unset m)
    · rcases List.mem_cons.mp ha with rfl | m
      · exact .inl List.mem_cons_self
      · exact (subG a m).imp (List.mem_cons_of_mem _) id
  · have hr := mk.2 (by
      by_cases e : w1 = .deep
      · exact .inr (by cases own; rfl; exact absurd ⟨e, rfl⟩ hd)
      · exact .inl e)
    have e2 : w2 = .top := by
      rw [hw2]
      cases hown2 : own with
      | false => rfl
      | true =>
        simp only [if_true]
        cases w1 with
        | sh => exact absurd rfl hw1
        | top => rfl
        | deep => exact absurd ⟨rfl, hown2⟩ hd
    rw [e2]
    have zS : ∀ a ∈ G ++ Fds.flatten, Z a = none := fun a ha => by
      rcases List.mem_append.mp ha with m | m
      · exact p.st.zf a (inF a (List.mem_cons_of_mem _ m))
      · exact p.zf a m
    have nq : q ∉ G ++ Fds.flatten := fun m => by
      rcases List.mem_append.mp m with m | m
      · exact (List.nodup_cons.mp nself).1 m
      · exact out q m (inF q List.mem_cons_self)
    have zq2 : zadd Z H (G ++ Fds.flatten) q = none := by rw [zadd_out nq]; exact zq
    refine ⟨zadd Z H (G ++ Fds.flatten), Fs.set i [q], ⟨subq (zadd_sub p.st.sub) zq2, rest (zadd_le zS) hr, ?_, fun a ha => ?_⟩, chg (zadd_le zS) (fun a u e => ?_) (fun a ha => ?_), zadd_le zS⟩
    · refine (set_perm hil).nodup_iff.mpr (List.nodup_cons.mpr ⟨fun m => othr q m List.mem_cons_self, ?_⟩)
      exact p.st.nd.sublist unset_sub
    · rcases List.mem_append.mp ((set_perm hil).mem_iff.mp ha) with m | m
      · have e : a = q := by simpa using m
        rw [e]
        exact zq2
      · rw [zadd_out fun z => ?_]
        · exact p.st.zf a (mem_unset m)
        · rcases List.mem_append.mp z with y | y
          · exact othr a m (List.mem_cons_of_mem _ y)
          · exact out a y (mem_unset m)
    · by_cases m : a ∈ G ++ Fds.flatten
      · rcases List.mem_append.mp m with y | y
        · exact .inr (.inl (inF a (List.mem_cons_of_mem _ y)))
        · exact .inr (.inr y)
      · rw [zadd_out m] at e
        exact .inl e
    · have e : a = q := by simpa using ha
      rw [e]
      exact .inl List.mem_cons_self
theorem Pes.change {w : List Nat} {Z0 H0 : Hp} {E0 E : En} {Fs0 Fs : List (List Addr)} {σ : Sl} {xs : List Val} {us : List V} {Fds : List (List Addr)} {i : Nat} {q : Addr} {d' : D} {w1 w2 : Ow} {G : List Addr} {o : HO} {own : Bool}
    (p : Pes K FA w Z0 H0 E0 Fs0 σ xs E us Z H Fds Fs) (hσ : σ[i]? = some (some (.ref q))) (hF : Fs.getD i [] = q :: G) (hH : H q ≠ none) (hw2 : w2 = if own = true then w1 else .top) (hown : own = allDeep xs)
    (mk : (w1 = .deep ∧ own = true → ∃ G' L, (G' ++ L).Perm (G ++ Fds.flatten) ∧ R K FA Z (upd H q o) .deep d' (.ref q) (q :: G')) ∧ (w1 ≠ .deep ∨ own = false → R K FA (zadd Z H (G ++ Fds.flatten)) (upd H q o) .top d' (.ref q) [q]))
    (hw1 : w1 ≠ .sh) :
    ∃ Z' Fs', Stt K FA Z' (upd H q o) (E.set i (some (d', w2))) σ Fs' ∧ Chg (i :: w) Z0 H0 E0 Fs0 Z' (upd H q o) (E.set i (some (d', w2))) Fs' := by
  obtain ⟨a, b, c, d, _⟩ := p.changeL hσ hF hH hw2 hown mk hw1
  exact ⟨a, b, c, d⟩

theorem list_mk {q : Addr} {ys ys' : List D} {vs vs' : List V} {G : List Addr} {w1 : Ow} {xs : List Val} {us : List V} {Fds : List (List Addr)} {own : Bool} (hw1 : w1 ≠ .sh) (hr : Rs K FA Z H (kid w1) ys vs G) (hx : RL K FA Z H xs us Fds) (hown : own = allDeep xs)
    (hq : q ∉ G ∧ q ∉ Fds.flatten) (zG : ∀ a ∈ G ++ Fds.flatten, Z a = none)
    (f : ∀ {Zz Hz : Hp} {w : Ow} {A C : List Addr}, Rs K FA Zz Hz w ys vs A → Rs K FA Zz Hz w (ds xs) us C → ∃ G' L, Rs K FA Zz Hz w ys' vs' G' ∧ (G' ++ L).Perm (A ++ C)) :
    (w1 = .deep ∧ own = true → ∃ G' L, (G' ++ L).Perm (G ++ Fds.flatten) ∧ R K FA Z (upd H q (.lst vs')) .deep (.lst ys') (.ref q) (q :: G')) ∧ (w1 ≠ .deep ∨ own = false → R K FA (zadd Z H (G ++ Fds.flatten)) (upd H q (.lst vs')) .top (.lst ys') (.ref q) [q]) := by
  refine ⟨fun hd => ?_, fun hd => ?_⟩
  · have hr' : Rs K FA Z H .deep ys vs G := by rw [hd.1] at hr; exact hr
    obtain ⟨G', L, r, hp⟩ := f hr' (RL_deep hx (by rw [← hown]; exact hd.2))
    have ne : ∀ a ∈ G', a ≠ q := fun a ha z => by
      subst z
      rcases List.mem_append.mp (hp.mem_iff.mp (List.mem_append_left L ha)) with m | m
      · exact hq.1 m
      · exact hq.2 m
    exact ⟨G', L, hp, q, vs', G', rfl, upd_same, Rs_keep (Le.refl _) _ (fun a ha => upd_ne (ne a ha)) r, rfl⟩
  · have le := zadd_le (H := H) zG
    have r1 : Rs K FA (zadd Z H (G ++ Fds.flatten)) H .sh ys vs [] := Rs_share le ys (fun a ha => zadd_in (List.mem_append_left _ ha)) hr
    have r2 : Rs K FA (zadd Z H (G ++ Fds.flatten)) H .sh (ds xs) us [] := RL_share le hx fun a ha => zadd_in (List.mem_append_right _ ha)
    obtain ⟨G', L, r, hp⟩ := f r1 r2
    have e0 := Rs_sh _ r
    subst e0
    exact ⟨q, vs', [], rfl, upd_same, Rs_keep (H := H) (Le.refl _) _ (fun _ m => (by cases m)) r, rfl⟩
theorem Rs_set : ∀ {ys : List D} {vs : List V} {w : Ow} {A C : List Addr} {j : Nat} {d : D} {v : V}, j < ys.length → Rs K FA Z H w ys vs A → Rs K FA Z H w [d] [v] C → ∃ G' L, Rs K FA Z H w (ys.set j d) (vs.set j v) G' ∧ (G' ++ L).Perm (A ++ C)
  | y :: ys, _, w, _, C, 0, d, v, _, ⟨v0, us, A, A', e0, h1, h2, e⟩, hx => by
    obtain ⟨v1, us1, C1, C2, f0, g1, g2, f⟩ := hx
    simp only [List.cons.injEq] at f0
    obtain ⟨rfl, rfl⟩ := f0
    obtain ⟨_, rfl⟩ := g2
    subst e0
    subst e
    subst f
    refine ⟨C1 ++ A', A, ⟨v, us, C1, A', rfl, g1, h2, rfl⟩, ?_⟩
    rw [List.append_nil]
    refine List.perm_append_comm.trans ?_
    rw [List.append_assoc]
    exact List.Perm.append_left A List.perm_append_comm
  | y :: ys, _, w, _, C, j + 1, d, v, hj, ⟨v0, us, A, A', e0, h1, h2, e⟩, hx => by
    subst e0
    subst e
    obtain ⟨G', L, r, hp⟩ := Rs_set (j := j) (by simpa using hj) h2 hx
    refine ⟨A ++ G', L, ⟨v0, us.set j v, A, G', rfl, h1, r, rfl⟩, ?_⟩
    rw [List.append_assoc, List.append_assoc]
    exact List.Perm.append_left A hp
  | [], _, _, _, _, _, _, _, hj, _, _ => by simp at hj
theorem RK_map : ∀ {kvs : List (D × D)} {kv : List (Key × V)} {w : Ow} {A C : List Addr} {k d : D} {key : Key} {v : V}, RK K FA Z H w kvs kv A → R K FA Z H w d v C → keyD k = some key → (kv.map (·.1)).Nodup → dhas kvs k = true →
    ∃ G' L, RK K FA Z H w (kvs.map fun p => if keq p.1 k then (p.1, d) else p) (kv.map fun p => if p.1 = key then (p.1, v) else p) G' ∧ (G' ++ L).Perm (A ++ C)
  | [], _, _, _, _, _, _, _, _, _, _, _, _, hh => by simp [dhas] at hh
  | (a, b) :: kvs, _, w, _, C, k, d, key, v, ⟨k0, v0, us, A, A', e0, ek, h1, h2, e⟩, hx, hk, hn, hh => by
    subst e0
    subst e
    rw [List.map_cons, List.nodup_cons] at hn
    have ekk := keq_key ek hk
    by_cases q : k0 = key
    · -- here, and nowhere else
      have no : ∀ {l : List (D × D)} {m : List (Key × V)} {F : List Addr}, RK K FA Z H w l m F → key ∉ m.map (·.1) → (l.map fun p => if keq p.1 k then (p.1, d) else p) = l ∧ (m.map fun p => if p.1 = key then (p.1, v) else p) = m := fun {l} => by
        induction l with
        | nil => intro m F h _; obtain ⟨rfl, _⟩ := h; exact ⟨rfl, rfl⟩
        | cons c l ih =>
          intro m F h hn'
          obtain ⟨c1, c2⟩ := c
          obtain ⟨k1, v1, us1, B1, B2, f0, fk, g1, g2, f⟩ := h
          subst f0
          rw [List.map_cons, List.mem_cons, not_or] at hn'
          obtain ⟨i1, i2⟩ := ih g2 hn'.2
          have ne : ¬ k1 = key := fun z => hn'.1 z.symm
          simp only [List.map_cons, keq_key fk hk, decide_eq_true_eq, if_neg ne, i1, i2, and_self]
      obtain ⟨i1, i2⟩ := no h2 (by rw [← q]; exact hn.1)
      refine ⟨C ++ A', A, ?_, ?_⟩
      · simp only [List.map_cons, ekk, q, decide_true, if_true, i1, i2]
        exact ⟨key, v, us, C, A', rfl, by rw [← q]; exact ek, hx, h2, rfl⟩
      · refine List.perm_append_comm.trans ?_
        rw [List.append_assoc]
        exact List.Perm.append_left A List.perm_append_comm
    · have hh' : dhas kvs k = true := by
        have : dhas ((a, b) :: kvs) k = (keq a k || dhas kvs k) := rfl
        rw [this, ekk, decide_eq_false q] at hh
        simpa using hh
      obtain ⟨G', L, r, hp⟩ := RK_map h2 hx hk hn.2 hh'
      refine ⟨A ++ G', L, ?_, ?_⟩
      · simp only [List.map_cons, ekk, decide_eq_false q, Bool.false_eq_true, if_false, if_neg q]
        exact ⟨k0, v0, _, A, G', rfl, ek, h1, r, rfl⟩
      · rw [List.append_assoc, List.append_assoc]
        exact List.Perm.append_left A hp
theorem RK_has : ∀ {kvs : List (D × D)} {kv : List (Key × V)} {w : Ow} {A : List Addr} {k : D} {key : Key}, RK K FA Z H w kvs kv A → keyD k = some key → (kv.any fun p => decide (p.1 = key)) = dhas kvs k
  | [], _, _, _, _, _, h, _ => by rw [h.1]; rfl
  | (a, b) :: kvs, _, w, _, k, key, ⟨k0, v0, us, A, A', e0, ek, h1, h2, e⟩, hk => by
    subst e0
    have : dhas ((a, b) :: kvs) k = (keq a k || dhas kvs k) := rfl
    rw [this, List.any_cons, RK_has h2 hk, keq_key ek hk]
theorem RK_app : ∀ {kvs : List (D × D)} {kv : List (Key × V)} {w : Ow} {A C : List Addr} {k d : D} {key : Key} {v : V}, RK K FA Z H w kvs kv A → R K FA Z H w d v C → keyD k = some key → RK K FA Z H w (kvs ++ [(k, d)]) (kv ++ [(key, v)]) (A ++ C)
  | [], _, _, _, C, k, d, key, v, h, hx, hk => by
    obtain ⟨rfl, rfl⟩ := h
    exact ⟨key, v, [], C, [], rfl, hk, hx, ⟨rfl, rfl⟩, by simp⟩
  | (a, b) :: kvs, _, w, _, C, k, d, key, v, ⟨k0, v0, us, A, A', e0, ek, h1, h2, e⟩, hx, hk => by
    subst e0
    subst e
    exact ⟨k0, v0, _, A, A' ++ C, rfl, ek, h1, RK_app h2 hx hk, by rw [List.append_assoc]⟩
theorem RK_put {kvs : List (D × D)} {kv : List (Key × V)} {w : Ow} {A C : List Addr} {k d : D} {key : Key} {v : V} (h : RK K FA Z H w kvs kv A) (hx : R K FA Z H w d v C) (hk : keyD k = some key) (hn : (kv.map (·.1)).Nodup) :
    ∃ G' L, RK K FA Z H w (dput kvs k d) (putK kv key v) G' ∧ (G' ++ L).Perm (A ++ C) := by
  unfold dput putK
  rw [RK_has h hk]
  cases hh : dhas kvs k with
  | true =>
    simp only [if_true]
    exact RK_map h hx hk hn hh
  | false =>
    simp only [Bool.false_eq_true, if_false]
    exact ⟨A ++ C, [], RK_app h hx hk, by simp⟩
theorem RK_nd {kv : List (Key × V)} {key : Key} {v : V} (hn : (kv.map (·.1)).Nodup) : ((putK kv key v).map (·.1)).Nodup := by
  unfold putK
  split
  · rw [List.map_map]
    have : ((fun p : Key × V => p.1) ∘ fun p => if p.1 = key then (p.1, v) else p) = fun p => p.1 := by
      funext p
      simp only [Function.comp]
      split <;> rfl
    rw [this]
    exact hn
  · rename_i hh
    rw [List.map_append, List.map_cons, List.map_nil]
    refine List.nodup_append.mpr ⟨hn, List.nodup_cons.mpr ⟨fun m => (by cases m), List.nodup_nil⟩, fun a ha b hb => ?_⟩
    have e : b = key := by simpa using hb
    rintro rfl
    subst e
    obtain ⟨p, hp, e⟩ := List.mem_map.mp ha
    exact hh (List.any_eq_true.mpr ⟨p, hp, decide_eq_true e⟩)
theorem dictK_mk {q : Addr} {kvs : List (D × D)} {kv : List (Key × V)} {k : D} {key : Key} {G : List Addr} {w1 : Ow} {x : Val} {v : V} {Fd : List Addr} {own : Bool} (hr : RK K FA Z H (kid w1) kvs kv G) (hx : R K FA Z H x.2 x.1 v Fd) (hown : own = allDeep [x]) (hk : keyD k = some key) (hn : (kv.map (·.1)).Nodup)
    (hq : q ∉ G ∧ q ∉ [Fd].flatten) (zG : ∀ a ∈ G ++ [Fd].flatten, Z a = none) :
    (w1 = .deep ∧ own = true → ∃ G' L, (G' ++ L).Perm (G ++ [Fd].flatten) ∧ R K FA Z (upd H q (.dK (putK kv key v))) .deep (.dic false (dput kvs k x.1)) (.ref q) (q :: G')) ∧ (w1 ≠ .deep ∨ own = false → R K FA (zadd Z H (G ++ [Fd].flatten)) (upd H q (.dK (putK kv key v))) .top (.dic false (dput kvs k x.1)) (.ref q) [q]) := by
  have ef : [Fd].flatten = Fd := by simp
  rw [ef] at hq zG ⊢
  refine ⟨fun hd => ?_, fun hd => ?_⟩
  · have hr' : RK K FA Z H .deep kvs kv G := by rw [hd.1] at hr; exact hr
    have hxd : R K FA Z H .deep x.1 v Fd := by
      have := hd.2
      rw [hown] at this
      simp only [allDeep, Bool.and_true, Bool.or_eq_true, decide_eq_true_eq] at this
      rcases this with z | z
      · obtain ⟨e0, kr⟩ := R_plain _ z hx
        rw [e0]
        exact kr _ _
      · rw [z] at hx
        exact hx
    obtain ⟨G', L, r, hp⟩ := RK_put hr' hxd hk hn
    have ne : ∀ a ∈ G', a ≠ q := fun a ha z => by
      subst z
      rcases List.mem_append.mp (hp.mem_iff.mp (List.mem_append_left L ha)) with m | m
      · exact hq.1 m
      · exact hq.2 m
    exact ⟨G', L, hp, q, G', rfl, .inl ⟨rfl, _, upd_same, RK_nd hn, RK_keep (Le.refl _) _ (fun a ha => upd_ne (ne a ha)) r⟩, rfl⟩
  · have le := zadd_le (H := H) zG
    have r1 : RK K FA (zadd Z H (G ++ Fd)) H .sh kvs kv [] := RK_share le kvs (fun a ha => zadd_in (List.mem_append_left _ ha)) hr
    have r2 : R K FA (zadd Z H (G ++ Fd)) H .sh x.1 v [] := R_share le _ (fun a ha => zadd_in (List.mem_append_right _ ha)) hx
    obtain ⟨G', L, r, hp⟩ := RK_put r1 r2 hk hn
    have e0 := RK_sh _ r
    subst e0
    exact ⟨q, [], rfl, .inl ⟨rfl, _, upd_same, RK_nd hn, RK_keep (H := H) (Le.refl _) _ (fun _ m => (by cases m)) r⟩, rfl⟩
theorem RT_map : ∀ {kvs : List (D × D)} {kv : List (List Key × V)} {w : Ow} {A C : List Addr} {k d : D} {key : List Key} {v : V}, RT K FA Z H w kvs kv A → R K FA Z H w d v C → keyT k = some key → (kv.map (·.1)).Nodup → dhas kvs k = true →
    ∃ G' L, RT K FA Z H w (kvs.map fun p => if keq p.1 k then (p.1, d) else p) (kv.map fun p => if p.1 = key then (p.1, v) else p) G' ∧ (G' ++ L).Perm (A ++ C)
  | [], _, _, _, _, _, _, _, _, _, _, _, _, hh => by simp [dhas] at hh
  | (a, b) :: kvs, _, w, _, C, k, d, key, v, ⟨k0, v0, us, A, A', e0, ek, h1, h2, e⟩, hx, hk, hn, hh => by
    subst e0
    subst e
    rw [List.map_cons, List.nodup_cons] at hn
    have ekk := keq_keyT ek hk
    by_cases q : k0 = key
    · -- here, and nowhere else
      have no : ∀ {l : List (D × D)} {m : List (List Key × V)} {F : List Addr}, RT K FA Z H w l m F → key ∉ m.map (·.1) → (l.map fun p => if keq p.1 k then (p.1, d) else p) = l ∧ (m.map fun p => if p.1 = key then (p.1, v) else p) = m := fun {l} => by
        induction l with
        | nil => intro m F h _; obtain ⟨rfl, _⟩ := h; exact ⟨rfl, rfl⟩
        | cons c l ih =>
          intro m F h hn'
          obtain ⟨c1, c2⟩ := c
          obtain ⟨k1, v1, us1, B1, B2, f0, fk, g1, g2, f⟩ := h
          subst f0
          rw [List.map_cons, List.mem_cons, not_or] at hn'
          obtain ⟨i1, i2⟩ := ih g2 hn'.2
          have ne : ¬ k1 = key := fun z => hn'.1 z.symm
          simp only [List.map_cons, keq_keyT fk hk, decide_eq_true_eq, if_neg ne, i1, i2, and_self]
      obtain ⟨i1, i2⟩ := no h2 (by rw [← q]; exact hn.1)
      refine ⟨C ++ A', A, ?_, ?_⟩
      · simp only [List.map_cons, ekk, q, decide_true, if_true, i1, i2]
        exact ⟨key, v, us, C, A', rfl, by rw [← q]; exact ek, hx, h2, rfl⟩
      · refine List.perm_append_comm.trans ?_
        rw [List.append_assoc]
        exact List.Perm.append_left A List.perm_append_comm
    · have hh' : dhas kvs k = true := by
        have : dhas ((a, b) :: kvs) k = (keq a k || dhas kvs k) := rfl
        rw [this, ekk, decide_eq_false q] at hh
        simpa using hh
      obtain ⟨G', L, r, hp⟩ := RT_map h2 hx hk hn.2 hh'
      refine ⟨A ++ G', L, ?_, ?_⟩
      · simp only [List.map_cons, ekk, decide_eq_false q, Bool.false_eq_true, if_false, if_neg q]
        exact ⟨k0, v0, _, A, G', rfl, ek, h1, r, rfl⟩
      · rw [List.append_assoc, List.append_assoc]
        exact List.Perm.append_left A hp
theorem RT_has : ∀ {kvs : List (D × D)} {kv : List (List Key × V)} {w : Ow} {A : List Addr} {k : D} {key : List Key}, RT K FA Z H w kvs kv A → keyT k = some key → (kv.any fun p => decide (p.1 = key)) = dhas kvs k
  | [], _, _, _, _, _, h, _ => by rw [h.1]; rfl
  | (a, b) :: kvs, _, w, _, k, key, ⟨k0, v0, us, A, A', e0, ek, h1, h2, e⟩, hk => by
    subst e0
    have : dhas ((a, b) :: kvs) k = (keq a k || dhas kvs k) := rfl
    rw [this, List.any_cons, RT_has h2 hk, keq_keyT ek hk]
theorem RT_app : ∀ {kvs : List (D × D)} {kv : List (List Key × V)} {w : Ow} {A C : List Addr} {k d : D} {key : List Key} {v : V}, RT K FA Z H w kvs kv A → R K FA Z H w d v C → keyT k = some key → RT K FA Z H w (kvs ++ [(k, d)]) (kv ++ [(key, v)]) (A ++ C)
  | [], _, _, _, C, k, d, key, v, h, hx, hk => by
    obtain ⟨rfl, rfl⟩ := h
    exact ⟨key, v, [], C, [], rfl, hk, hx, ⟨rfl, rfl⟩, by simp⟩
  | (a, b) :: kvs, _, w, _, C, k, d, key, v, ⟨k0, v0, us, A, A', e0, ek, h1, h2, e⟩, hx, hk => by
    subst e0
    subst e
    exact ⟨k0, v0, _, A, A' ++ C, rfl, ek, h1, RT_app h2 hx hk, by rw [List.append_assoc]⟩
theorem RT_put {kvs : List (D × D)} {kv : List (List Key × V)} {w : Ow} {A C : List Addr} {k d : D} {key : List Key} {v : V} (h : RT K FA Z H w kvs kv A) (hx : R K FA Z H w d v C) (hk : keyT k = some key) (hn : (kv.map (·.1)).Nodup) :
    ∃ G' L, RT K FA Z H w (dput kvs k d) (putK kv key v) G' ∧ (G' ++ L).Perm (A ++ C) := by
  unfold dput putK
  rw [RT_has h hk]
  cases hh : dhas kvs k with
  | true =>
    simp only [if_true]
    exact RT_map h hx hk hn hh
  | false =>
    simp only [Bool.false_eq_true, if_false]
    exact ⟨A ++ C, [], RT_app h hx hk, by simp⟩
theorem RT_nd {kv : List (List Key × V)} {key : List Key} {v : V} (hn : (kv.map (·.1)).Nodup) : ((putK kv key v).map (·.1)).Nodup := by
  unfold putK
  split
  · rw [List.map_map]
    have : ((fun p : List Key × V => p.1) ∘ fun p => if p.1 = key then (p.1, v) else p) = fun p => p.1 := by
      funext p
      simp only [Function.comp]
      split <;> rfl
    rw [this]
    exact hn
  · rename_i hh
    rw [List.map_append, List.map_cons, List.map_nil]
    refine List.nodup_append.mpr ⟨hn, List.nodup_cons.mpr ⟨fun m => (by cases m), List.nodup_nil⟩, fun a ha b hb => ?_⟩
    have e : b = key := by simpa using hb
    rintro rfl
    subst e
    obtain ⟨p, hp, e⟩ := List.mem_map.mp ha
    exact hh (List.any_eq_true.mpr ⟨p, hp, decide_eq_true e⟩)
theorem dictT_mk {q : Addr} {kvs : List (D × D)} {kv : List (List Key × V)} {k : D} {key : List Key} {G : List Addr} {w1 : Ow} {x : Val} {v : V} {Fd : List Addr} {own : Bool} (hr : RT K FA Z H (kid w1) kvs kv G) (hx : R K FA Z H x.2 x.1 v Fd) (hown : own = allDeep [x]) (hk : keyT k = some key) (hn : (kv.map (·.1)).Nodup)
    (hq : q ∉ G ∧ q ∉ [Fd].flatten) (zG : ∀ a ∈ G ++ [Fd].flatten, Z a = none) :
    (w1 = .deep ∧ own = true → ∃ G' L, (G' ++ L).Perm (G ++ [Fd].flatten) ∧ R K FA Z (upd H q (.dT (putK kv key v))) .deep (.dic true (dput kvs k x.1)) (.ref q) (q :: G')) ∧ (w1 ≠ .deep ∨ own = false → R K FA (zadd Z H (G ++ [Fd].flatten)) (upd H q (.dT (putK kv key v))) .top (.dic true (dput kvs k x.1)) (.ref q) [q]) := by
  have ef : [Fd].flatten = Fd := by simp
  rw [ef] at hq zG ⊢
  refine ⟨fun hd => ?_, fun hd => ?_⟩
  · have hr' : RT K FA Z H .deep kvs kv G := by rw [hd.1] at hr; exact hr
    have hxd : R K FA Z H .deep x.1 v Fd := by
      have := hd.2
      rw [hown] at this
      simp only [allDeep, Bool.and_true, Bool.or_eq_true, decide_eq_true_eq] at this
      rcases this with z | z
      · obtain ⟨e0, kr⟩ := R_plain _ z hx
        rw [e0]
        exact kr _ _
      · rw [z] at hx
        exact hx
    obtain ⟨G', L, r, hp⟩ := RT_put hr' hxd hk hn
    have ne : ∀ a ∈ G', a ≠ q := fun a ha z => by
      subst z
      rcases List.mem_append.mp (hp.mem_iff.mp (List.mem_append_left L ha)) with m | m
      · exact hq.1 m
      · exact hq.2 m
    exact ⟨G', L, hp, q, G', rfl, .inr ⟨rfl, _, upd_same, RT_nd hn, RT_keep (Le.refl _) _ (fun a ha => upd_ne (ne a ha)) r⟩, rfl⟩
  · have le := zadd_le (H := H) zG
    have r1 : RT K FA (zadd Z H (G ++ Fd)) H .sh kvs kv [] := RT_share le kvs (fun a ha => zadd_in (List.mem_append_left _ ha)) hr
    have r2 : R K FA (zadd Z H (G ++ Fd)) H .sh x.1 v [] := R_share le _ (fun a ha => zadd_in (List.mem_append_right _ ha)) hx
    obtain ⟨G', L, r, hp⟩ := RT_put r1 r2 hk hn
    have e0 := RT_sh _ r
    subst e0
    exact ⟨q, [], rfl, .inr ⟨rfl, _, upd_same, RT_nd hn, RT_keep (H := H) (Le.refl _) _ (fun _ m => (by cases m)) r⟩, rfl⟩
end

theorem Pe.one {K : PySem.W.Frag} {FA : Nat → Addr → Prop} {w : List Nat} {Z H Z' H' : Hp} {E E1 : En} {Fs Fs1 : List (List Addr)} {σ : Sl} {x : Val} {v : V} {Fd : List Addr} (p : Pe K FA w none Z H E Fs σ x E1 v Z' H' Fd Fs1) : Pes K FA w Z H E Fs σ [x] E1 [v] Z' H' [Fd] Fs1 := by
  obtain ⟨n1, n2, n3⟩ := p.ex rfl
  exact ⟨p.st, p.ch, ⟨p.val, trivial⟩, by simpa using n1, fun a ha => n2 a (by simpa using ha), fun a ha => n3 a (by simpa using ha)⟩

theorem Pes.behind {K : PySem.W.Frag} {FA : Nat → Addr → Prop} {w w2 : List Nat} {Z H Z1 H1 Z2 H2 : Hp} {E E1 E2 : En} {Fs Fs1 Fs2 Fds : List (List Addr)} {σ : Sl} {xs : List Val} {us : List V} (p : Pes K FA w Z H E Fs σ xs E1 us Z1 H1 Fds Fs1) (s : Stt K FA Z2 H2 E2 σ Fs2) (q : Chg w2 Z1 H1 E1 Fs1 Z2 H2 E2 Fs2) :
    Pes K FA (w ++ w2) Z H E Fs σ xs E2 us Z2 H2 Fds Fs2 := by
  have out : ∀ a ∈ Fds.flatten, a ∉ Fs1.flatten := fun a ha hb => (List.nodup_append.mp p.nd).2.2 a ha a hb rfl
  have th : ∀ a ∈ Fds.flatten, H1 a ≠ none := fun a ha => RE.there p.val ha
  have keep : ∀ a ∈ Fds.flatten, H2 a = H1 a := fun a ha => by
    cases e : H1 a with
    | none => exact absurd e (th a ha)
    | some u => exact q.frame a u e fun z => out a ha z.flat
  refine ⟨s, p.ch.trans q, RE.keep q.le keep p.val, ?_, fun a ha => ?_, fun a ha => (p.fd a ha).imp id fun y => y.mono fun i hi => List.mem_append_left _ hi⟩
  · refine List.nodup_append.mpr ⟨(List.nodup_append.mp p.nd).1, s.nd, fun a ha b hb => ?_⟩
    rintro rfl
    rcases q.flat hb with z | z
    · exact out a ha z
    · exact th a ha z
  · cases e : Z2 a with
    | none => rfl
    | some u =>
      rcases q.zn a u e with z | z | z
      · rw [p.zf a ha] at z; cases z
      · exact absurd z (out a ha)
      · exact absurd z (th a ha)
theorem RT_len {K : PySem.W.Frag} {FA : Nat → Addr → Prop} {Z H : Hp} {l : List (D × D)} : ∀ {w : Ow} {v : List (List Key × V)} {F : List Addr}, RT K FA Z H w l v F → v.length = l.length := by
  induction l with
  | nil => intro w v F h; rw [h.1]; rfl
  | cons c l ih => intro w v F h; obtain ⟨c1, c2⟩ := c; obtain ⟨_, _, _, _, _, e0, _, _, h2, _⟩ := h; rw [e0]; simp [ih h2]

theorem Stt.dic_at {K : PySem.W.Frag} {FA : Nat → Addr → Prop} {Z H : Hp} {E : En} {Fs : List (List Addr)} {σ : Sl} {i : Nat} {tt : Bool} {kvs : List (D × D)} {w : Ow} (st : Stt K FA Z H E σ Fs) (e : E[i]? = some (some (.dic tt kvs, w))) (hw : w ≠ .sh) :
    ∃ q G, σ[i]? = some (some (.ref q)) ∧ Fs.getD i [] = q :: G ∧ ((tt = false ∧ ∃ kv, H q = some (.dK kv) ∧ (kv.map (·.1)).Nodup ∧ RK K FA Z H (kid w) kvs kv G) ∨ (tt = true ∧ ∃ kv, H q = some (.dT kv) ∧ (kv.map (·.1)).Nodup ∧ RT K FA Z H (kid w) kvs kv G)) := by
  obtain ⟨v, hv, ro⟩ := st.re.get e
  cases v with
  | none => exact ro.elim
  | some v =>
    obtain ⟨q, G, rfl, hq, ef⟩ := (show R K FA Z H w (.dic tt kvs) v (Fs.getD i []) from ro)
    refine ⟨q, G, hv, ?_, ?_⟩
    · rw [ef]
      cases w
      · exact absurd rfl hw
      · rfl
      · rfl
    · cases w
      · exact absurd rfl hw
      · exact hq
      · exact hq

theorem Stt.lst_at {K : PySem.W.Frag} {FA : Nat → Addr → Prop} {Z H : Hp} {E : En} {Fs : List (List Addr)} {σ : Sl} {i : Nat} {ys : List D} {w : Ow} (st : Stt K FA Z H E σ Fs) (e : E[i]? = some (some (.lst ys, w))) (hw : w ≠ .sh) :
    ∃ q vs G, σ[i]? = some (some (.ref q)) ∧ H q = some (.lst vs) ∧ Rs K FA Z H (kid w) ys vs G ∧ Fs.getD i [] = q :: G := by
  obtain ⟨v, hv, ro⟩ := st.re.get e
  cases v with
  | none => exact ro.elim
  | some v =>
    obtain ⟨q, vs, G, rfl, hq, hr, ef⟩ := (show R K FA Z H w (.lst ys) v (Fs.getD i []) from ro)
    refine ⟨q, vs, G, hv, ?_, hr, ?_⟩
    · cases w
      · exact absurd rfl hw
      · exact hq
      · exact hq
    · rw [ef]
      cases w
      · exact absurd rfl hw
      · rfl
      · rfl
section
variable {X : Cx} {B : Bk} {pos p pos' : Pos} {ee ek : Expr} {e k : Ex} {i : Nat} {x : Str}
theorem _root_.L2.PS.or {X : Cx} {st : Stmt} {t t' : TS} (h : PS X st t) (h' : PS X st t') : PS X st (fun D σ H => t D σ H ∨ t' D σ H) :=
  ⟨fun pins s σ H D I w => w.elim (h.run pins s σ H D I) (h'.run pins s σ H D I)⟩
theorem ex_setIx {Φ : Phi} {E : En} {o : Out} (h : ex Φ (.setIx i k e) E = some o) : ∃ x0 E1 y E2 d w d' r, ev Φ e E = some (x0, E1) ∧ (∃ z, (esc e x0 E1).2[i]? = some (some z)) ∧ ev Φ k (esc e x0 E1).2 = some (y, E2) ∧ E2[i]? = some (some (d, w)) ∧ w ≠ .sh ∧ setD y.1 (esc e x0 E1).1.1 d = some (d', r) ∧
    o = .nx (E2.set i (some (d', if allDeep [(esc e x0 E1).1] = true then w else .top))) := by
  simp only [ex, Option.bind_eq_bind, Option.bind_eq_some_iff, Prod.exists] at h
  obtain ⟨xd, xw, E1, h1, h2⟩ := h
  cases hz : (esc e (xd, xw) E1).2[i]? with
  | none => rw [hz] at h2; simp at h2
  | some oz =>
    rw [hz] at h2
    cases oz with
    | none => simp at h2
    | some z =>
      simp only [Option.bind_eq_some_iff, Prod.exists] at h2
      obtain ⟨yd, yw, E2, h3, rd, rw', E3, h4, h5⟩ := h2
      simp only [Option.some.injEq] at h5
      subst h5
      unfold chg at h4
      cases hd : E2[i]? with
      | none => rw [hd] at h4; cases h4
      | some od =>
        rw [hd] at h4
        cases od with
        | none => cases h4
        | some dw =>
          obtain ⟨d, w⟩ := dw
          simp only at h4
          split at h4
          · cases h4
          · rename_i hw
            simp only [List.isEmpty_nil, if_true, Option.bind_eq_bind, Option.bind_eq_some_iff, Prod.exists] at h4
            obtain ⟨d', r, h6, h7⟩ := h4
            simp only [Option.some.injEq, Prod.mk.injEq] at h7
            obtain ⟨_, rfl⟩ := h7
            refine ⟨(xd, xw), E1, (yd, yw), E2, d, w, d', r, h1, ⟨z, hz⟩, h3, hd, hw, h6, ?_⟩
            simp only [allDeep, Bool.and_true, Out.nx.injEq]

theorem ss_setIx (hN : X.N[i]? = some x) (hv : Vis X.env.scope x) (he : PE X ee (SE B e)) (hk : PE X ek (SE B k)) (hu : X.A.units + 1 < cLine) (hd : (x == ("__debug__" : Str)) = false := by decide) (hcd : (x == ("__classdict__" : Str)) = false := by decide)
    (hs : swapsWithSole [.Subscript (.Name x p) ek pos'] ee pos.line X.env = pure false := by rfl) (hw : swappedStores [.Subscript (.Name x p) ek pos'] ee X.env = pure none := by rfl)
    (h1 : (assignEach [.Subscript (.Name x p) ek pos'] X.env).map (·.2) = [assign (.Subscript (.Name x p) ek pos') X.env] := by rfl)
    (ha : ∀ v, assign (.Subscript (.Name x p) ek pos') X.env v = (do
      let ov ← holding [v] (eval (.Name x p) X.env)
      let iv ← holding [v, ov] (eval ek X.env)
      standAt pos'
      holding [v, ov, iv] (setItem ov iv v)
      release [v, ov, iv] []) := by intro _; rfl) (hs2 : swapsWith ee (some (.Subscript (.Name x p) ek pos')) pos.line X.env = pure false := by rfl) : PS X (.Assign [.Subscript (.Name x p) ek pos'] ee pos) (SS B (.setIx i k e)) := by
  refine ((ps_asg he (pg_sub (pe_var hN hv hd hcd) hk set_list ha) hs hw h1).or (ps_dput hu (pe_var hN hv hd hcd) hk he hs2)).imp fun D σ H h => ?_
  obtain ⟨Z, E, Fs, o, s, hx, q⟩ := h
  obtain ⟨x0, E1, y, E2, d, w, d', r, h1, ⟨z0, hz⟩, h2, h3, hw, h4, rfl⟩ := ex_setIx hx
  have key : ∀ {R3 : V → V → V → Hp → Prop}, (∀ v vi u H1 H2 Z1 Z2 Fd Fs1 Fs2 Fu, Pe B.K B.FA (wrx e) none Z H E Fs σ (esc e x0 E1).1 (esc e x0 E1).2 v Z1 H1 Fd Fs1 → σ[i]? = some (some vi) → Pe B.K B.FA (wr k) (pr k) Z1 H1 (esc e x0 E1).2 Fs1 σ y E2 u Z2 H2 Fu Fs2 → R3 v vi u H2) →
      SE B e σ H fun v H1 => tVar i σ H1 fun vi H1' => SE B k σ H1' fun u H2 => R3 v vi u H2 := fun {R3} f => by
    refine se_x ⟨Z, E, Fs, x0, E1, s, h1, fun v H1 Z1 Fd Fs1 p => ?_⟩
    obtain ⟨vi, hvi, ri⟩ := p.st.re.get hz
    cases vi with
    | none => exact ri.elim
    | some vi => exact ⟨vi, hvi, Z1, _, Fs1, y, E2, p.st, h2, fun u H2 Z2 Fu Fs2 qk => f v vi u H1 H2 Z1 Z2 Fd Fs1 Fs2 Fu p hvi qk⟩
  have fin : ∀ {Z2 H2 : Hp} {E3 : En} {Z1 H1 : Hp} {Fs3 : List (List Addr)} , Stt B.K B.FA Z2 H2 E3 σ Fs3 → Chg (i :: (wrx e ++ wr k)) Z H E Fs Z2 H2 E3 Fs3 → E3 = E2.set i (some (d', if allDeep [(esc e x0 E1).1] = true then w else .top)) → D.nx σ H2 := fun {Z2 H2 E3 Z1 H1 Fs3} s3 c3 e3 => by
    subst e3
    refine q σ _ Z2 Fs3 s3 (c3.mono fun t ht => ?_) fun _ _ => rfl
    simp only [wrS, List.mem_cons, List.mem_append] at ht ⊢
    rcases ht with z | z | z
    · exact .inl z
    · exact .inr (.inr z)
    · exact .inr (.inl z)
  cases d with
  | dic tt kvs =>
    have h4' : kvs.length < line ∧ keyOk tt y.1 = true ∧ d' = .dic tt (dput kvs y.1 (esc e x0 E1).1.1) := by
      simp only [setD] at h4
      split at h4
      · rename_i hc
        simp only [Option.some.injEq, Prod.mk.injEq] at h4
        exact ⟨hc.1, hc.2, h4.1.symm⟩
      · cases h4
    obtain ⟨hl, hko, rfl⟩ := h4'
    refine .inr (key fun v vi u H1 H2 Z1 Z2 Fd Fs1 Fs2 Fu p hvi qk => ?_)
    have pb := (p.one).behind qk.st qk.ch
    obtain ⟨qa, G, hσ, ef, hq⟩ := qk.st.dic_at h3 hw
    rw [hvi] at hσ
    cases hσ
    have nself : (qa :: G).Nodup ∧ ∀ a ∈ qa :: G, a ∈ Fs2.flatten := by
      have sp := self_perm (Fs := Fs2) (i := i)
      rw [ef] at sp
      exact ⟨(List.nodup_append.mp (sp.nodup_iff.mp qk.st.nd)).1, fun a ha => mem_flat (i := i) (by rw [ef]; exact ha)⟩
    have hqn : qa ∉ G ∧ qa ∉ [Fd].flatten := ⟨(List.nodup_cons.mp nself.1).1, fun m => (List.nodup_append.mp pb.nd).2.2 qa m qa (nself.2 qa List.mem_cons_self) rfl⟩
    have zG : ∀ a ∈ G ++ [Fd].flatten, Z2 a = none := fun a ha => by
      rcases List.mem_append.mp ha with m | m
      · exact qk.st.zf a (nself.2 a (List.mem_cons_of_mem _ m))
      · exact pb.zf a m
    rcases hq with ⟨rfl, kv, hq, hn, hr⟩ | ⟨rfl, kv, hq, hn, hr⟩
    · obtain ⟨kk, hkk⟩ : ∃ kk, keyD y.1 = some kk := Option.isSome_iff_exists.mp (by simpa [keyOk] using hko)
      obtain ⟨Z3, Fs3, s3, c3⟩ := pb.change (o := .dK (putK kv kk v)) (own := allDeep [(esc e x0 E1).1]) (w1 := w) hvi ef (by rw [hq]; exact fun z => by cases z) rfl rfl
        (dictK_mk hr pb.val.1 rfl hkk hn hqn zG) hw
      exact ⟨qa, _, rfl, .inl ⟨kv, kk, hq, key_val hkk qk.val, by rw [RK_len hr]; exact hl, rfl⟩, fin (Z1 := Z) (H1 := H) s3 c3 rfl⟩
    · obtain ⟨kk, hkk⟩ : ∃ kk, keyT y.1 = some kk := Option.isSome_iff_exists.mp (by simpa [keyOk] using hko)
      obtain ⟨Z3, Fs3, s3, c3⟩ := pb.change (o := .dT (putK kv kk v)) (own := allDeep [(esc e x0 E1).1]) (w1 := w) hvi ef (by rw [hq]; exact fun z => by cases z) rfl rfl
        (dictT_mk hr pb.val.1 rfl hkk hn hqn zG) hw
      obtain ⟨tb, rfl, htb⟩ := keyT_val qk.st.sub hkk qk.val
      have len : kv.length = kvs.length := RT_len hr
      exact ⟨qa, _, rfl, .inr ⟨kv, kk, tb, hq, rfl, htb, by rw [len]; exact hl, rfl⟩, fin (Z1 := Z) (H1 := H) s3 c3 rfl⟩
  | lst ys =>
    refine .inl (key fun v vi u H1 H2 Z1 Z2 Fd Fs1 Fs2 Fu p hvi qk => ?_)
    have pb := (p.one).behind qk.st qk.ch
    · skip
      obtain ⟨yd, yw⟩ := y
      cases yd with
      | int kk =>
        simp only [setD, storeI, Option.map_map, Option.map_eq_some_iff] at h4
        obtain ⟨j, hj, h5⟩ := h4
        simp only [Function.comp, Prod.mk.injEq] at h5
        obtain ⟨rfl, rfl⟩ := h5
        obtain ⟨qa, vs, G, hσ, hq, hr, ef⟩ := qk.st.lst_at h3 hw
        rw [hvi] at hσ
        cases hσ
        have hjl : j < ys.length := by
          unfold ixN at hj
          split at hj
          · split at hj
            · cases hj; omega
            · cases hj
          · split at hj
            · cases hj; omega
            · cases hj
        have nself : (qa :: G).Nodup ∧ ∀ a ∈ qa :: G, a ∈ Fs2.flatten := by
          have sp := self_perm (Fs := Fs2) (i := i)
          rw [ef] at sp
          exact ⟨(List.nodup_append.mp (sp.nodup_iff.mp qk.st.nd)).1, fun a ha => mem_flat (i := i) (by rw [ef]; exact ha)⟩
        have hqn : qa ∉ G ∧ qa ∉ [Fd].flatten := ⟨(List.nodup_cons.mp nself.1).1, fun m => (List.nodup_append.mp pb.nd).2.2 qa m qa (nself.2 qa List.mem_cons_self) rfl⟩
        have zG : ∀ a ∈ G ++ [Fd].flatten, Z2 a = none := fun a ha => by
          rcases List.mem_append.mp ha with m | m
          · exact qk.st.zf a (nself.2 a (List.mem_cons_of_mem _ m))
          · exact pb.zf a m
        refine ⟨qa, vs, kk, j, rfl, qk.val.1, hq, by rw [Rs_len hr]; exact hj, ?_⟩
        obtain ⟨Z3, Fs3, s3, c3⟩ := pb.change (o := .lst (vs.set j v)) (own := allDeep [(esc e x0 E1).1]) (w1 := w) hvi ef (by rw [hq]; exact fun z => by cases z) rfl rfl
          (list_mk hw hr pb.val rfl hqn zG fun {Zz Hz w A C} ra rc => Rs_set hjl ra rc) hw
        exact fin (Z1 := Z) (H1 := H) s3 c3 rfl
      | _ => simp [setD] at h4
  | _ => simp [setD] at h4
end
end BS

set_option Elab.async false
set_option linter.all false
set_option maxRecDepth 100000
set_option maxHeartbeats 2000000
namespace BS
open PySem PySem.Spec PyProof.Rows L2

section
variable {K : PySem.W.Frag} {FA : Nat → Addr → Prop} {Z H : Hp}
end
section
variable {X : Cx} {B : Bk} {pos p : Pos} {ea eb : Expr} {a b : Ex}
end
end BS

set_option Elab.async false
set_option linter.all false
set_option maxRecDepth 100000
set_option maxHeartbeats 2000000
namespace BS
open PySem PySem.Spec PyProof.Rows L2
section
variable {K : PySem.W.Frag} {FA : Nat → Addr → Prop} {Z H : Hp}
theorem fos_sub {G : Nat → List Addr} {Fs : List (List Addr)} (h : ∀ j, G j = [] ∨ G j = Fs.getD j []) : ∀ n s, (((List.range' s n).map G).flatten).Sublist (Fs.drop s).flatten
  | 0, s => by simp
  | n + 1, s => by
    simp only [List.range'_succ, List.map_cons, List.flatten_cons]
    have ih := fos_sub h n (s + 1)
    by_cases hs : s < Fs.length
    · rw [List.drop_eq_getElem_cons hs, List.flatten_cons]
      refine List.Sublist.append ?_ ih
      rcases h s with e | e
      · rw [e]; exact List.nil_sublist _
      · rw [e, List.getD_eq_getElem?_getD, List.getElem?_eq_getElem hs]
        exact List.Sublist.refl _
    · have e : G s = [] := by
        rcases h s with e | e
        · exact e
        · rw [e, List.getD_eq_getElem?_getD, List.getElem?_eq_none (by omega)]; rfl
      rw [e, List.nil_append]
      rw [List.drop_eq_nil_of_le (by omega)] at ih ⊢
      exact ih
theorem RE_start : ∀ {xs : List Val} {vs : List V} {Fds : List (List Addr)} (n : Nat), RL K FA Z H xs vs Fds → RE K FA Z H (xs.map some ++ List.replicate n none) (vs.map some ++ List.replicate n none) (Fds ++ List.replicate n [])
  | [], [], [], 0, _ => trivial
  | [], [], [], n + 1, h => ⟨rfl, RE_start n h⟩
  | x :: xs, v :: vs, F :: Fds, n, h => ⟨h.1, RE_start n h.2⟩
  | [], _ :: _, _, _, h => h.elim
  | _ :: _, [], _, _, h => h.elim
  | [], [], _ :: _, _, h => h.elim
  | _ :: _, _ :: _, [], _, h => h.elim
def fosOf (d : Def) (Fs : List (List Addr)) : List (List Addr) := (List.range d.np).map fun j => if (asg d.body).contains j then [] else Fs.getD j []
theorem fosOf_sub (d : Def) (Fs : List (List Addr)) : (fosOf d Fs).flatten.Sublist Fs.flatten := by
  have := fos_sub (G := fun j => if (asg d.body).contains j then [] else Fs.getD j []) (Fs := Fs) (fun j => by
    by_cases h : (asg d.body).contains j = true
    · exact .inl (if_pos h)
    · exact .inr (if_neg h)) d.np 0
  rw [← List.range_eq_range'] at this
  rw [List.drop_zero] at this
  exact this
theorem outs_re {d : Def} {E : En} {σ : Sl} {Fs : List (List Addr)} {vs : List V} (hl : vs.length = d.np) (re : RE K FA Z H E σ Fs) (h0 : ∀ j v, vs[j]? = some v → ¬ (asg d.body).contains j = true → σ[j]? = some (some v)) : RE K FA Z H (outs d E) (vs.map some) (fosOf d Fs) := by
  refine RE.mk' (by simp [outs, hl]) (by simp [fosOf, hl]) fun j x v hx hv => ?_
  have hj : j < d.np := by
    have := (List.getElem?_eq_some_iff.mp hx).1
    simpa [outs] using this
  have e1 : (outs d E)[j]? = some (if (asg d.body).contains j then none else E.getD j none) := by
    simp [outs, List.getElem?_map, List.getElem?_range hj]
  have e2 : (fosOf d Fs).getD j [] = if (asg d.body).contains j then [] else Fs.getD j [] := by
    simp [fosOf, List.getD_eq_getElem?_getD, List.getElem?_map, List.getElem?_range hj]
  rw [e1] at hx
  rw [e2]
  simp only [Option.some.injEq] at hx
  by_cases hc : (asg d.body).contains j = true
  · rw [if_pos hc] at hx ⊢
    subst hx
    exact rfl
  · rw [if_neg hc] at hx ⊢
    rw [List.getElem?_map, Option.map_eq_some_iff] at hv
    obtain ⟨u, hu, rfl⟩ := hv
    have hs := h0 j u hu hc
    have hlen := re.length.1
    have hjl : j < E.length := by rw [hlen]; exact (List.getElem?_eq_some_iff.mp hs).1
    have hE : E[j]? = some (E.getD j none) := by
      rw [List.getD_eq_getElem?_getD, List.getElem?_eq_getElem hjl]; rfl
    obtain ⟨v', hv', ro⟩ := re.get hE
    rw [hs] at hv'
    cases hv'
    rw [← hx]
    exact ro
end
section
variable {P : Program} {w : World} {K : PySem.W.Frag} {mg : Str → Option Value} {base : Heap} {FA : Nat → Addr → Prop}
theorem def_sp {W : WX} {Φ : Phi} {d : Def} {vs : List V} {H : Hp} {Q : VK} {E : XK} {N : List Str} (hN : N.length = d.ns) (h : spV K FA (callD Φ d) vs H Q E) : SS ⟨K, FA, Φ, W⟩ d.body { nx := fun _ H' => Q .non H', rt := Q } (L2.start N vs) H := by
  obtain ⟨Z, xs, Fds, r, os, sub, rl, nd, zf, hc, k⟩ := h
  have hl := rl.length
  unfold callD at hc
  split at hc
  · rename_i hnp
    have e0 : L2.start N vs = vs.map some ++ List.replicate (d.ns - d.np) none := by
      unfold L2.start
      rw [hN, hl, hnp]
    have st : Stt K FA Z H (xs.map some ++ List.replicate (d.ns - d.np) none) (L2.start N vs) (Fds ++ List.replicate (d.ns - d.np) []) := by
      rw [e0]
      refine ⟨sub, RE_start _ rl, ?_, ?_⟩
      · simpa using nd
      · simpa using zf
    have fl : (Fds ++ List.replicate (d.ns - d.np) ([] : List Addr)).flatten = Fds.flatten := by simp
    have keepS : ∀ {σ' : Sl}, (∀ i, i ∉ asg d.body → σ'[i]? = (L2.start N vs)[i]?) → ∀ j v, vs[j]? = some v → ¬ (asg d.body).contains j = true → σ'[j]? = some (some v) := fun hs j v hv hc => by
      rw [hs j (by simpa using hc), e0, List.getElem?_append_left (by rw [List.length_map]; exact (List.getElem?_eq_some_iff.mp hv).1), List.getElem?_map, hv]
      rfl
    cases ho : ex Φ d.body (xs.map some ++ List.replicate (d.ns - d.np) none) with
    | none => rw [ho] at hc; cases hc
    | some o =>
      rw [ho] at hc
      refine ⟨Z, _, _, o, st, ho, ?_⟩
      cases o with
      | nx E' =>
        simp only [Option.some.injEq, Prod.mk.injEq] at hc
        obtain ⟨rfl, rfl⟩ := hc
        intro σ' H' Z' Fs' s' c' hs
        refine k .non H' Z' [] (fosOf d Fs') ⟨c'.le, fun a u e => ?_, s'.sub, ⟨rfl, rfl⟩, outs_re (by rw [hl, hnp]) s'.re (keepS hs), ?_, fun a ha => ?_, fun a ha => ?_, fun a u e n => ?_, c'.there⟩
        · have := c'.zn a u e
          rwa [fl] at this
        · simpa using s'.nd.sublist (fosOf_sub d Fs')
        · exact s'.zf a ((fosOf_sub d Fs').subset (by simpa using ha))
        · obtain ⟨j, hj⟩ := of_flat ((fosOf_sub d Fs').subset (by simpa using ha))
          rcases c'.fr j a hj with y | y | y
          · exact .inl (fl ▸ mem_flat y)
          · exact .inr y
          · exact .inl (fl ▸ y.flat)
        · exact c'.frame a u e fun y => n (fl ▸ y.flat)
      | rs x E' => cases hc
      | rt x E' =>
        simp only [Option.some.injEq, Prod.mk.injEq] at hc
        obtain ⟨rfl, rfl⟩ := hc
        intro v σ' H' Z' Fd Fs' p hs
        obtain ⟨n1, n2, n3⟩ := p.ex rfl
        refine k v H' Z' Fd (fosOf d Fs') ⟨p.ch.le, fun a u e => ?_, p.st.sub, p.val, outs_re (by rw [hl, hnp]) p.st.re (keepS hs), ?_, fun a ha => ?_, fun a ha => ?_, fun a u e n => ?_, p.ch.there⟩
        · have := p.ch.zn a u e
          rwa [fl] at this
        · exact n1.sublist (List.Sublist.append_left (fosOf_sub d Fs') _)
        · rcases List.mem_append.mp ha with y | y
          · exact n2 a y
          · exact p.st.zf a ((fosOf_sub d Fs').subset y)
        · rcases List.mem_append.mp ha with y | y
          · rcases n3 a y with z | z
            · exact .inr z
            · exact .inl (fl ▸ z.flat)
          · obtain ⟨j, hj⟩ := of_flat ((fosOf_sub d Fs').subset y)
            rcases p.ch.fr j a hj with y | y | y
            · exact .inl (fl ▸ mem_flat y)
            · exact .inr y
            · exact .inl (fl ▸ y.flat)
        · exact p.ch.frame a u e fun y => n (fl ▸ y.flat)
  · cases hc
theorem def_ok {Φ : Phi} {f : Addr} {fd : FuncData} {d : Def} {N ps : List Str} {x qual : Str} {params : Arguments} {body : List Stmt} {scope : Scope} {k : Nat} (F : FunD K x qual params body scope [] [] f fd) (S : FnScope N ps scope) (hp : ps.length = d.np) (hN : N.length = d.ns)
    (hb : ∀ (cdv : Value) (A : Around) (outer : List Env) (s : Shared) (H : Hp) (E : XK), Room k (A.deeper (envOfC qual scope s.heap.objs.size f cdv)) → PSs (cxOf CX0 P w K mg base N qual scope f cdv A outer s H E).nox body (SS ⟨K, FA, Φ, fun _ _ _ _ => False⟩ d.body)) :
    FnOk P w K mg base CX0 (k + 1) f fd ps (spV K FA (callD Φ d)) := by
  refine F.ok S (fun vs H Q E h => ?_) fun cdv A outer s H vs Q E hr h => ⟨_, PSs.nox (hb cdv A outer s H E hr), def_sp hN h⟩
  obtain ⟨Z, xs, Fds, r, os, _, rl, _, _, hc, _⟩ := h
  rw [rl.length, hp]
  unfold callD at hc
  split at hc
  · assumption
  · cases hc
end
end BS

set_option Elab.async false
set_option linter.all false
set_option maxRecDepth 100000
set_option maxHeartbeats 2000000
namespace BS
open PySem PySem.Spec PyProof.Rows L2

theorem hu64_of {A : PySem.Around} {k : Nat} (hr : L2.Room k A) : A.units + 64 < PySem.cLine := hr.units
abbrev Tss := List (Str × Stmt × List Str)

def defNm (x : Str) (st : Stmt) : Str := match st with
  | .FunctionDef n .. => n
  | _ => x
def mkD (t : Str × Stmt × List Str) : He.DefD := ⟨(t.1, none), defNm t.1 t.2.1, defNm t.1 t.2.1, defArgs t.2.1, defBody t.2.1, defScope t.2.1, [], []⟩
def dfs (ts : Tss) : List He.DefD := ts.map mkD
def fas (ts : Tss) (fr : List Str) (ci : List (Str × Int) := []) (cs : List (Str × Str) := []) : List He.Fa := (ts.map fun t => He.Fa.glo t.1) ++ (fr.map He.Fa.free ++ (ci.map (fun c => He.Fa.int c.1 c.2) ++ cs.map fun c => He.Fa.str c.1 c.2))
structure Txt (K : PySem.W.Frag) (mg : Str → Option Value) (ts : Tss) (fr : List Str) (ci : List (Str × Int)) (cs : List (Str × Str)) (fdv : Nat → FuncData) : Prop where
  fn : ∀ {x : Str} {st : Stmt} {ps : List Str} (i : Nat), ts[i]? = some (x, st, ps) → FunD K (defNm x st) (defNm x st) (defArgs st) (defBody st) (defScope st) [] [] (He.ga K x) (fdv i)
  glo : ∀ {x : Str} {st : Stmt} {ps : List Str} (i : Nat), ts[i]? = some (x, st, ps) → mg x = some (.ref (He.ga K x))
  free : ∀ {x : Str} (i : Nat), fr[i]? = some x → mg x = none
  int : ∀ {x : Str} {n : Int} (i : Nat), ci[i]? = some (x, n) → ∃ t, mg x = some (.int n t)
  str : ∀ {x z : Str} (i : Nat), cs[i]? = some (x, z) → ∃ t, mg x = some (.str z t)
def FAof (K : PySem.W.Frag) (ts : Tss) : Nat → Addr → Prop := fun g a => ∃ x st ps, ts[g]? = some (x, st, ps) ∧ a = He.ga K x
theorem Txt.of {K : PySem.W.Frag} {mg : Str → Option Value} {h : Heap} {ts : Tss} {fr : List Str} {ci : List (Str × Int)} {cs : List (Str × Str)} (X : K.In h) (G : h.Ns mainGlobals mg) (c : He.SaysD (fas ts fr ci cs) (dfs ts) K) : ∃ fdv, Txt K mg ts fr ci cs fdv := by
  have h1 : ∀ i : Nat, ∃ fd : FuncData, ∀ x st ps, ts[i]? = some (x, st, ps) → FunD K (defNm x st) (defNm x st) (defArgs st) (defBody st) (defScope st) [] [] (He.ga K x) fd := fun i => by
    cases e : ts[i]? with
    | none => exact ⟨PySem.W.fnOf "" "" (defArgs (.Pass ⟨0, 0, 0, 0⟩)) (defBody (.Pass ⟨0, 0, 0, 0⟩)) (defScope (.Pass ⟨0, 0, 0, 0⟩)) .none .none .none .none none .none .none, fun _ _ _ z => by cases z⟩
    | some t =>
      obtain ⟨fd, F⟩ := c.def_ i (d := mkD t) (by unfold dfs; rw [List.getElem?_map, e]; rfl)
      exact ⟨fd, fun x st ps z => by cases z; exact F⟩
  obtain ⟨fdv, hf⟩ := Classical.axiomOfChoice h1
  refine ⟨fdv, fun i z => hf i _ _ _ z, fun {x st ps} i z => ?_, fun {x} i z => ?_, fun {x n} i z => ?_, fun {x y} i z => ?_⟩
  · exact He.glo_ok X G (c.fact i (f := .glo x) (by
      unfold fas
      have hl : i < (ts.map fun t => He.Fa.glo t.1).length := by
        rw [List.length_map]
        exact (List.getElem?_eq_some_iff.mp z).1
      rw [List.getElem?_append_left hl, List.getElem?_map, z]
      rfl))
  · exact He.free_ok X G (c.fact (ts.length + i) (f := .free x) (by
      unfold fas
      have hl : i < (fr.map He.Fa.free).length := by
        rw [List.length_map]
        exact (List.getElem?_eq_some_iff.mp z).1
      rw [List.getElem?_append_right (by simp), List.length_map, Nat.add_sub_cancel_left, List.getElem?_append_left hl, List.getElem?_map, z]
      rfl))
  · exact He.int_ok X G (c.fact (ts.length + (fr.length + i)) (f := .int x n) (by
      unfold fas
      have hl : i < (ci.map fun c => He.Fa.int c.1 c.2).length := by
        rw [List.length_map]
        exact (List.getElem?_eq_some_iff.mp z).1
      rw [List.getElem?_append_right (by simp), List.length_map, Nat.add_sub_cancel_left, List.getElem?_append_right (by simp), List.length_map, Nat.add_sub_cancel_left, List.getElem?_append_left hl, List.getElem?_map, z]
      rfl))
  · exact He.str_ok X G (c.fact (ts.length + (fr.length + (ci.length + i))) (f := .str x y) (by
      unfold fas
      rw [List.getElem?_append_right (by simp), List.length_map, Nat.add_sub_cancel_left, List.getElem?_append_right (by simp), List.length_map, Nat.add_sub_cancel_left, List.getElem?_append_right (by simp), List.length_map, Nat.add_sub_cancel_left, List.getElem?_map, z]
      rfl))
abbrev Oks (P : Program) (w : World) (K : PySem.W.Frag) (mg : Str → Option Value) (base : Heap) (tab : Nat → Option Def) (ts : Tss) (fdv : Nat → FuncData) (n : Nat) : Prop :=
  ∀ {x : Str} {st : Stmt} {ps : List Str} (i : Nat), ts[i]? = some (x, st, ps) → FnOk P w K mg base CX0 n (He.ga K x) (fdv i) ps (spV K (FAof K ts) (call tab n i))
theorem oks0 {P : Program} {w : World} {K : PySem.W.Frag} {mg : Str → Option Value} {base : Heap} {tab : Nat → Option Def} {ts : Tss} {fdv : Nat → FuncData} : Oks P w K mg base tab ts fdv 0 := by
  intro x st ps i h
  have no : ∀ vs H Q E, spV K (FAof K ts) (call tab 0 i) vs H Q E → False := fun vs H Q E z => by
    obtain ⟨Z, xs, Fds, r, os, _, _, _, _, hc, _⟩ := z
    simp [call] at hc
  exact ⟨fun vs H Q E z => (no vs H Q E z).elim, fun A outer s H args us vs Q E _ _ _ _ z => (no vs H Q E z).elim⟩

theorem law_sp {K : PySem.W.Frag} {FA : Nat → Addr → Prop} {f : List Val → Option (Val × List (Option Val))} {H : Hp} {a : Addr} {ns : List Int} (h : ∃ w os, f [(.scr ns, .deep)] = some ((.bl true, w), os)) (hS : SqL K H a (ns.map V.int)) :
    spV K FA f [.ref a] H (fun v _ => v = .bl true) fun _ _ _ => False := by
  obtain ⟨w, os, e⟩ := h
  refine ⟨H, [(.scr ns, .deep)], [[]], (.bl true, w), os, fun a u h => .inl h, ⟨⟨⟨a, rfl, hS⟩, rfl⟩, trivial⟩, by simp, fun a m => (by simp at m), e, fun v H' Z' Fd Fos p => p.val.1⟩
end BS

set_option Elab.async false
set_option linter.all false
set_option maxRecDepth 100000
set_option maxHeartbeats 2000000
namespace BS
open PySem PySem.Spec PyProof.Rows L2
section
variable {X : Cx} {B : Bk} {pos p p2 : Pos} {ea eb ec : Expr} {a b c : Ex}

theorem sx_gint {x : Str} {i : Int} (hg : Gl X x) (hm : ∃ t, X.mg x = some (.int i t)) (hd : (x == ("__debug__" : Str)) = false := by decide) : PE X (.Name x pos) (SE B (.int i)) := by
  obtain ⟨t, hm⟩ := hm
  exact (pe_glob hg hm (v := .int i) ⟨t, rfl⟩ hd).imp fun σ H Q h => se_leaf (d := .int i) rfl (fun E x E' e => by simp [ev] at e; exact ⟨e.1.symm, e.2.symm⟩) (fun _ _ => ⟨rfl, rfl⟩) h
theorem sx_gstr {x z : Str} (hg : Gl X x) (hm : ∃ t, X.mg x = some (.str z t)) (hl : z.length ≤ line := by decide +kernel) (hk : PyData.strOk z = true := by decide +kernel) (hd : (x == ("__debug__" : Str)) = false := by decide) : PE X (.Name x pos) (SE B (.str z)) := by
  obtain ⟨t, hm⟩ := hm
  exact (pe_glob hg hm (v := .str z) ⟨t, rfl⟩ hd).imp fun σ H Q h => se_leaf (d := .str z) rfl (fun E x E' e => by simp [ev] at e; exact ⟨e.1.symm, e.2.symm⟩) (fun _ _ => ⟨⟨rfl, hl, hk⟩, rfl⟩) h

def pureE : Ex → Bool
  | .var _ => true
  | .int _ => true
  | .op1 _ a => pureE a
  | .ix a k => pureE a && pureE k
  | .op2 _ a b => pureE a && pureE b
  | _ => false
theorem pureE_ev {Φ : Phi} : ∀ {e : Ex} {E E' : En} {x : Val}, pureE e = true → ev Φ e E = some (x, E') → E' = E
  | .var i, E, E', x, _, h => by
    simp only [ev] at h
    split at h
    · simp only [Option.some.injEq, Prod.mk.injEq] at h; exact h.2.symm
    · cases h
  | .int i, E, E', x, _, h => by simp only [ev, Option.some.injEq, Prod.mk.injEq] at h; exact h.2.symm
  | .op1 o a, E, E', x, hp, h => by
    simp only [ev, Option.bind_eq_bind, Option.bind_eq_some_iff, Prod.exists] at h
    obtain ⟨y, w, E1, h1, d, h2, e⟩ := h
    simp only [Option.some.injEq, Prod.mk.injEq] at e
    rw [← e.2]
    exact pureE_ev (e := a) (by simpa [pureE] using hp) h1
  | .ix a k, E, E', x, hp, h => by
    simp only [pureE, Bool.and_eq_true] at hp
    simp only [ev, Option.bind_eq_bind, Option.bind_eq_some_iff, Prod.exists] at h
    obtain ⟨y, w, E1, h1, h⟩ := h
    split at h
    · simp only [Option.bind_eq_some_iff, Prod.exists] at h
      obtain ⟨z, w', E2, h2, d, h3, e⟩ := h
      simp only [Option.some.injEq, Prod.mk.injEq] at e
      rw [← e.2, pureE_ev hp.2 h2]
      exact pureE_ev hp.1 h1
    · cases h
  | .op2 o a b, E, E', x, hp, h => by
    simp only [pureE, Bool.and_eq_true] at hp
    simp only [ev, Option.bind_eq_bind, Option.bind_eq_some_iff, Prod.exists] at h
    obtain ⟨y, w, E1, h1, h⟩ := h
    split at h
    · simp only [Option.bind_eq_some_iff, Prod.exists] at h
      obtain ⟨z, w', E2, h2, d, h3, e⟩ := h
      simp only [Option.some.injEq, Prod.mk.injEq] at e
      rw [← e.2, pureE_ev hp.2 h2]
      exact pureE_ev hp.1 h1
    · cases h
theorem se_chain {o o' : Op2} {r r' : R2} (hb : pureE b = true) (hr : Ok2 B (app2 o) r) (hr' : Ok2 B (app2 o') r') {σ H Q} (h : SE B (.and (.op2 o a b) (.op2 o' b c)) σ H Q) : tChain r r' (SE B a) (SE B b) (SE B c) σ H Q := by
  obtain ⟨Z, E, Fs, x, E', st, he, k⟩ := h
  obtain ⟨ka, wa, Ea, h1, h2⟩ := ev_and he
  simp only [ev, Option.bind_eq_bind, Option.bind_eq_some_iff, Prod.exists] at h1
  obtain ⟨y, w, E1, h3, h1⟩ := h1
  by_cases hb1 : brw a (wr b) (y, w) = true
  · rw [if_pos hb1] at h1
    simp only [Option.bind_eq_some_iff, Prod.exists] at h1
    obtain ⟨z, w', E2, h4, d, h5, e⟩ := h1
    simp only [Option.some.injEq, Prod.mk.injEq] at e
    obtain ⟨⟨rfl, rfl⟩, rfl⟩ := e
    have e2 := pureE_ev hb h4
    subst e2
    refine ⟨Z, E, Fs, (y, w), _, st, h3, fun v H1 Z1 F1 Fs1 p => ?_⟩
    refine ⟨Z1, _, Fs1, (z, w'), _, p.st, h4, fun u H2 Z2 F2 Fs2 q => ?_⟩
    obtain ⟨_, kr⟩ := p.keep q.ch (brw_ok hb1)
    refine hr _ _ _ v u _ _ _ _ _ H2 _ q.st.sub kr q.val h5 fun t ht => ?_
    refine ⟨ka, (ht .deep).1, ?_⟩
    cases ka with
    | false =>
      simp only [Bool.false_eq_true, if_false] at h2 ⊢
      obtain ⟨rfl, rfl⟩ := h2
      exact k _ H2 Z2 [] Fs2 (((p.trans q).plain (d := .bl false) (u := .bl false) fun w => ⟨rfl, rfl⟩).mono fun i hi => List.mem_append_left _ hi)
    | true =>
      simp only [if_true] at h2 ⊢
      obtain ⟨kc, wc, h6, rfl⟩ := h2
      simp only [ev, Option.bind_eq_bind, Option.bind_eq_some_iff, Prod.exists] at h6
      obtain ⟨y2, w2, E3, h7, h6⟩ := h6
      rw [h4] at h7
      simp only [Option.some.injEq, Prod.mk.injEq] at h7
      obtain ⟨⟨rfl, rfl⟩, rfl⟩ := h7
      by_cases hb2 : brw b (wr c) (z, w') = true
      · rw [if_pos hb2] at h6
        simp only [Option.bind_eq_some_iff, Prod.exists] at h6
        obtain ⟨y3, w3, E4, h8, d, h9, e⟩ := h6
        simp only [Option.some.injEq, Prod.mk.injEq] at e
        obtain ⟨⟨rfl, rfl⟩, rfl⟩ := e
        refine ⟨Z2, _, Fs2, (y3, w3), _, q.st, h8, fun u3 H3 Z3 F3 Fs3 q3 => ?_⟩
        obtain ⟨_, kr3⟩ := q.keep q3.ch (brw_ok hb2)
        refine hr' _ _ _ u u3 _ _ _ _ _ H3 Q q3.st.sub kr3 q3.val h9 fun t3 ht3 => ?_
        refine k t3 H3 Z3 [] Fs3 ((((p.trans q).trans q3).plain ht3).mono fun i hi => ?_)
        simp only [wr, List.mem_append] at hi ⊢
        rcases hi with (hi | hi) | hi
        · exact .inl (.inl hi)
        · exact .inl (.inr hi)
        · exact .inr (.inr hi)
      · rw [if_neg hb2] at h6
        cases h6
  · rw [if_neg hb1] at h1
    cases h1
theorem sx_chain {o o' : Op2} {op op' : CmpOp} {r r' : R2} (ho : OpR X (compareOp op) r) (ho' : OpR X (compareOp op') r') (hr : Ok2 B (app2 o) r) (hr' : Ok2 B (app2 o') r') (ha : PE X ea (SE B a)) (hb : PE X eb (SE B b)) (hc : PE X ec (SE B c)) (hp : pureE b = true := by rfl) (hm : lastMarks [op, op'] [eb, ec] = false := by with_unfolding_all rfl) :
    PE X (.Compare ea [op, op'] [eb, ec] pos) (SE B (.and (.op2 o a b) (.op2 o' b c))) := (pe_chain ho ho' ha hb hc hm).imp fun _ _ _ h => se_chain hp hr hr' h
theorem sp_chain {o o' : Op2} {op op' : CmpOp} {r r' : R2} (ho : OpR X (compareOp op) r) (ho' : OpR X (compareOp op') r') (hr : Ok2 B (app2 o) r) (hr' : Ok2 B (app2 o') r') (ha : PE X ea (SE B a)) (hb : PE X eb (SE B b)) (hc : PE X ec (SE B c)) (hp : pureE b = true := by rfl) (hm : lastMarks [op, op'] [eb, ec] = false := by with_unfolding_all rfl) :
    PT X (.Compare ea [op, op'] [eb, ec] pos) (ST B (.and (.op2 o a b) (.op2 o' b c))) := (pt_chain ho ho' ha hb hc hm).imp fun σ H Q h => by
  obtain ⟨Z, E, Fs, k, w, E', st, he, kk⟩ := h
  exact se_chain hp hr hr' (Q := fun x H' => ∃ k, x = .bl k ∧ Q k H') ⟨Z, E, Fs, _, E', st, he, fun v H' Z' Fd Fs' p => ⟨k, p.val.1, kk H' Z' Fs' p.st p.ch⟩⟩
abbrev sx_chlele (ha : PE X ea (SE B a)) (hb : PE X eb (SE B b)) (hc : PE X ec (SE B c)) (hp : pureE b = true := by rfl) (hm : lastMarks [.LtE, .LtE] [eb, ec] = false := by with_unfolding_all rfl) : PE X (.Compare ea [.LtE, .LtE] [eb, ec] pos) (SE B (.and (.op2 .le a b) (.op2 .le b c))) := sx_chain op_le op_le ok_le ok_le ha hb hc hp hm
abbrev sp_chlele (ha : PE X ea (SE B a)) (hb : PE X eb (SE B b)) (hc : PE X ec (SE B c)) (hp : pureE b = true := by rfl) (hm : lastMarks [.LtE, .LtE] [eb, ec] = false := by with_unfolding_all rfl) : PT X (.Compare ea [.LtE, .LtE] [eb, ec] pos) (ST B (.and (.op2 .le a b) (.op2 .le b c))) := sp_chain op_le op_le ok_le ok_le ha hb hc hp hm
abbrev sx_chlelt (ha : PE X ea (SE B a)) (hb : PE X eb (SE B b)) (hc : PE X ec (SE B c)) (hp : pureE b = true := by rfl) (hm : lastMarks [.LtE, .Lt] [eb, ec] = false := by with_unfolding_all rfl) : PE X (.Compare ea [.LtE, .Lt] [eb, ec] pos) (SE B (.and (.op2 .le a b) (.op2 .lt b c))) := sx_chain op_le op_lt ok_le ok_lt ha hb hc hp hm
abbrev sp_chlelt (ha : PE X ea (SE B a)) (hb : PE X eb (SE B b)) (hc : PE X ec (SE B c)) (hp : pureE b = true := by rfl) (hm : lastMarks [.LtE, .Lt] [eb, ec] = false := by with_unfolding_all rfl) : PT X (.Compare ea [.LtE, .Lt] [eb, ec] pos) (ST B (.and (.op2 .le a b) (.op2 .lt b c))) := sp_chain op_le op_lt ok_le ok_lt ha hb hc hp hm

def isBV (k : Bool) : V → Bool
  | .bl c => c == k
  | _ => false
def rIsB (k : Bool) (neg : Bool) : R2 := fun x y H Q => y = .bl k ∧ Q (.bl (if neg then !isBV k x else isBV k x)) H
end
end BS

set_option Elab.async false
set_option linter.all false
set_option maxRecDepth 100000
set_option maxHeartbeats 2000000
namespace BS
open PySem PySem.Spec PyProof.Rows L2
section
variable {X : Cx} {B : Bk} {pos p apos : Pos} {i : Nat} {x : Str} {es : List Expr} {as : List Ex}
theorem Pe.mut {K : PySem.W.Frag} {FA : Nat → Addr → Prop} {w : List Nat} {Z H Z' H' : Hp} {E E' : En} {Fs Fs' : List (List Addr)} {σ : Sl} {m : Mt} (s : Stt K FA Z' H' E' σ Fs') (c : Chg w Z H E Fs Z' H' E' Fs') : Pe K FA w (pr (.mut m i as)) Z H E Fs σ (.non, .deep) E' .non Z' H' [] Fs' :=
  ⟨s, c, ⟨rfl, rfl⟩, fun _ => ⟨by simpa using s.nd, fun _ h => (by cases h), fun _ h => (by cases h)⟩, fun _ _ z => by simp [pr] at z⟩

theorem Pes.own {K : PySem.W.Frag} {FA : Nat → Addr → Prop} {w : List Nat} {Z H Z1 H1 : Hp} {E E1 : En} {Fs Fs1 Fds : List (List Addr)} {σ : Sl} {xs : List Val} {us : List V} {q : Addr} {G : List Addr} (pb : Pes K FA w Z H E Fs σ xs E1 us Z1 H1 Fds Fs1) (ef : Fs1.getD i [] = q :: G) :
    (q ∉ G ∧ q ∉ Fds.flatten) ∧ ∀ a ∈ G ++ Fds.flatten, Z1 a = none := by
  have nself : (q :: G).Nodup ∧ ∀ a ∈ q :: G, a ∈ Fs1.flatten := by
    have sp := self_perm (Fs := Fs1) (i := i)
    rw [ef] at sp
    exact ⟨(List.nodup_append.mp (sp.nodup_iff.mp pb.st.nd)).1, fun a ha => mem_flat (i := i) (by rw [ef]; exact ha)⟩
  refine ⟨⟨(List.nodup_cons.mp nself.1).1, fun m => (List.nodup_append.mp pb.nd).2.2 q m q (nself.2 q List.mem_cons_self) rfl⟩, fun a ha => ?_⟩
  rcases List.mem_append.mp ha with m | m
  · exact pb.st.zf a (nself.2 a (List.mem_cons_of_mem _ m))
  · exact pb.zf a m
variable {e1 : Expr} {a1 : Ex}
end
end BS

set_option Elab.async false
set_option linter.all false
set_option maxRecDepth 100000
set_option maxHeartbeats 2000000
namespace BS
open PySem PySem.Spec PyProof.Rows L2

def trsOf (B : Bk) : List Ex → List (TE × TE)
  | k :: v :: r => (SE B k, SE B v) :: trsOf B r
  | _ => []
def pairV : List V → List (V × V)
  | k :: v :: r => (k, v) :: pairV r
  | _ => []
section
variable {X : Cx} {B : Bk} {pos p : Pos}
variable {K : PySem.W.Frag} {FA : Nat → Addr → Prop} {Z Z' H H' : Hp}
variable {ef e : Expr} {f : Ex} {es : List Expr} {as : List Ex} {x : Str}

def Alls (X : Cx) (B : Bk) (n : Nat) : Prop := ∀ g a, B.FA g a → ∃ fd ps, FnOk X.prog X.w X.K X.mg X.base CX0 n a fd ps (spV B.K B.FA (B.Φ g)) ∧ PySem.W.keepIn X.K (.ref a) = true ∧ Binds X.K fd ps []
end

theorem alls_of {P : Program} {w : World} {K : PySem.W.Frag} {mg : Str → Option Value} {base : Heap} {tab : Nat → Option Def} {ts : Tss} {fr : List Str} {ci : List (Str × Int)} {cs : List (Str × Str)} {fdv : Nat → FuncData} {n : Nat} (T : Txt K mg ts fr ci cs fdv) (A : Oks P w K mg base tab ts fdv n)
    (hb : ∀ {x : Str} {st : Stmt} {ps : List Str} (i : Nat), ts[i]? = some (x, st, ps) → Binds K (fdv i) ps []) :
    ∀ g a, FAof K ts g a → ∃ fd ps, FnOk P w K mg base CX0 n a fd ps (spV K (FAof K ts) (call tab n g)) ∧ PySem.W.keepIn K (.ref a) = true ∧ Binds K fd ps [] := by
  rintro g a ⟨x, st, ps, h, rfl⟩
  exact ⟨fdv g, ps, A g h, (T.fn g h).kp, hb g h⟩
end BS

set_option Elab.async false
set_option linter.all false
set_option maxRecDepth 100000
set_option maxHeartbeats 2000000
namespace BS
open PySem PySem.Spec PyProof.Rows L2
section
variable {X : Cx} {B : Bk} {pos p : Pos} {ea eb ec : Expr} {a b c : Ex}

end
end BS

set_option Elab.async false
set_option linter.all false
set_option maxRecDepth 100000
set_option maxHeartbeats 2000000
namespace BS
open PySem PySem.Spec PyProof.Rows L2
theorem hu65_of {A : PySem.Around} {k : Nat} (hr : L2.Room k A) : A.units + 65 < PySem.cLine := by
  have := hr.un
  omega
section
variable {K : PySem.W.Frag} {FA : Nat → Addr → Prop} {Z H : Hp}
end
section
variable {X : Cx} {B : Bk} {pos p apos : Pos} {ea eb ec : Expr} {a b c : Ex}

end
end BS

set_option Elab.async false
set_option linter.all false
set_option maxRecDepth 100000
set_option maxHeartbeats 2000000

namespace BS
open PySem PySem.Spec PyProof.Rows L2
section
variable {K : PySem.W.Frag} {FA : Nat → Addr → Prop} {Z Z' H H' : Hp}

theorem Stt.frz {E : En} {σ : Sl} {Fs : List (List Addr)} {d : Addr} {od : Obj} {u : HO} (st : Stt K FA Z H E σ Fs) (hz : Z d = some u) (hu : isDic u) : Stt K FA Z (upd H d (.frz od u)) E σ Fs := by
  have hd : d ∉ Fs.flatten := fun m => by rw [st.zf d m] at hz; cases hz
  refine ⟨fun a v h => ?_, RE.keep (Le.refl _) (fun a ha => upd_ne fun e => hd (e ▸ ha)) st.re, st.nd, st.zf⟩
  by_cases e : a = d
  · subst e
    rw [hz] at h
    cases h
    exact .inr ⟨hu, od, upd_same⟩
  · rw [upd_ne e]
    exact st.sub a v h
theorem Stt.thaw {E : En} {σ : Sl} {Fs : List (List Addr)} {d : Addr} {u : HO} (st : Stt K FA Z H E σ Fs) (hz : Z d = some u) : Stt K FA Z (upd H d u) E σ Fs := by
  have hd : d ∉ Fs.flatten := fun m => by rw [st.zf d m] at hz; cases hz
  refine ⟨fun a v h => ?_, RE.keep (Le.refl _) (fun a ha => upd_ne fun e => hd (e ▸ ha)) st.re, st.nd, st.zf⟩
  by_cases e : a = d
  · subst e
    rw [hz] at h
    cases h
    exact .inl upd_same
  · rw [upd_ne e]
    exact st.sub a v h
theorem Chg.thaw {w : List Nat} {E E' : En} {Fs Fs' : List (List Addr)} {d : Addr} {od : Obj} {u : HO} (c : Chg w Z (upd H d (.frz od u)) E Fs Z' H' E' Fs') (hd : H d = some u) : Chg w Z H E Fs Z' (upd H' d u) E' Fs' := by
  have none_of : ∀ a, upd H d (.frz od u) a = none → H a = none := fun a h => by
    by_cases e : a = d
    · subst e; rw [upd_same] at h; cases h
    · rwa [upd_ne e] at h
  refine ⟨c.le, fun a v h => (c.zn a v h).imp id (Or.imp id (none_of a)), fun i a h => (c.fr i a h).imp id (Or.imp (none_of a) id), fun a v h n => ?_, fun a h => ?_, c.same⟩
  · by_cases e : a = d
    · subst e
      rw [hd] at h
      rw [upd_same]
      exact h
    · rw [upd_ne e]
      exact c.frame a v (by rw [upd_ne e]; exact h) n
  · by_cases e : a = d
    · subst e; rw [upd_same]; exact fun z => by cases z
    · rw [upd_ne e]
      exact c.there a (by rw [upd_ne e]; exact h)
theorem Pe.thaw {w : List Nat} {E E' : En} {Fs Fs' : List (List Addr)} {σ : Sl} {x : Val} {v : V} {Fd : List Addr} {d : Addr} {od : Obj} {u : HO} (p : Pe K FA w none Z (upd H d (.frz od u)) E Fs σ x E' v Z' H' Fd Fs') (hd : H d = some u) (hz : Z d = some u) : Pe K FA w none Z H E Fs σ x E' v Z' (upd H' d u) Fd Fs' := by
  have hz' := p.ch.le d u hz
  obtain ⟨n1, n2, n3⟩ := p.ex rfl
  have nd : ∀ a ∈ Fd, a ≠ d := fun a ha e => by subst e; rw [n2 a ha] at hz'; cases hz'
  refine ⟨p.st.thaw hz', p.ch.thaw hd, R_keep (Le.refl _) _ (fun a ha => upd_ne (nd a ha)) p.val, fun _ => ⟨n1, n2, fun a ha => (n3 a ha).imp (fun h => ?_) id⟩, fun _ _ z => (by cases z)⟩
  by_cases e : a = d
  · exact absurd e (nd a ha)
  · rwa [upd_ne e] at h

theorem RK_at {w : Ow} : ∀ {kvs : List (D × D)} {kv : List (Key × V)} {F : List Addr} {i : Nat} {a d : D}, RK K FA Z H w kvs kv F → kvs[i]? = some (a, d) → ∃ k v, kv[i]? = some (k, v) ∧ keyD a = some k
  | [], _, _, _, _, _, _, e => by simp at e
  | (a', d') :: r, _, _, 0, a, d, ⟨k, v, us, A, B, e0, ek, _, _, _⟩, e => by
    subst e0
    simp only [List.getElem?_cons_zero, Option.some.injEq, Prod.mk.injEq] at e
    obtain ⟨rfl, rfl⟩ := e
    exact ⟨k, v, rfl, ek⟩
  | (a', d') :: r, _, _, i + 1, a, d, ⟨k, v, us, A, B, e0, ek, _, h2, _⟩, e => by
    subst e0
    simp only [List.getElem?_cons_succ] at e ⊢
    exact RK_at h2 e
theorem intKeys_at : ∀ {kvs : List (D × D)} {i : Nat} {a d : D}, intKeys kvs = true → kvs[i]? = some (a, d) → ∃ n, a = .int n
  | [], _, _, _, _, e => by simp at e
  | (a', d') :: r, 0, a, d, h, e => by
    simp only [intKeys, Bool.and_eq_true] at h
    simp only [List.getElem?_cons_zero, Option.some.injEq, Prod.mk.injEq] at e
    obtain ⟨rfl, rfl⟩ := e
    cases a' <;> simp [isIntD] at h
    exact ⟨_, rfl⟩
  | (a', d') :: r, i + 1, a, d, h, e => by
    simp only [intKeys, Bool.and_eq_true] at h
    exact intKeys_at h.2 (by simpa using e)
theorem yld_keys {kvs : List (D × D)} {kv : List (Key × V)} {w : Ow} {F : List Addr} {Z1 H1 : Hp} {G : Hp → Prop} (hr : RK K FA Z1 H1 w kvs kv F) (hi : intKeys kvs = true) :
    Yld K FA (kvs.map (·.1)) Z1 G (fun i H x H' => H' = H ∧ ∃ k v, kv[i]? = some (k, v) ∧ x = kV k) := by
  intro i d x H H' Z hd le _ hy E σ Fs st
  obtain ⟨rfl, k, v, hk, rfl⟩ := hy
  rw [List.getElem?_map] at hd
  cases e : kvs[i]? with
  | none => rw [e] at hd; cases hd
  | some p =>
    obtain ⟨a, d'⟩ := p
    rw [e] at hd
    simp only [Option.map_some, Option.some.injEq] at hd
    subst hd
    obtain ⟨k', v', hk', ek⟩ := RK_at hr e
    obtain ⟨n, rfl⟩ := intKeys_at hi e
    rw [hk] at hk'
    simp only [Option.some.injEq, Prod.mk.injEq] at hk'
    obtain ⟨rfl, rfl⟩ := hk'
    simp only [keyD, Option.some.injEq] at ek
    subst ek
    exact ⟨Z, st, Chg.refl _ _ _ _ _, ⟨rfl, rfl⟩⟩
theorem yld_pair {its : List D} {xs ys : Nat → Option V} {Z1 : Hp} {G : Hp → Prop}
    (h : ∀ i d x y, its[i]? = some d → xs i = some x → ys i = some y → ∃ a b, d = .tup [a, b] ∧ ∀ Z' H', Le Z1 Z' → R K FA Z' H' .sh a x [] ∧ R K FA Z' H' .sh b y []) : Yld K FA its Z1 G (YPair xs ys) := by
  intro i d v H H' Z hd le _ hy E σ Fs st
  obtain ⟨T, x, y, rfl, hT, rfl, hx, hy⟩ := hy
  obtain ⟨a, b, rfl, hr⟩ := h i d x y hd hx hy
  have zT := st.sub.none hT
  have le' : Le Z (upd Z T (.tup [x, y])) := upd_keep zT
  refine ⟨upd Z T (.tup [x, y]), st.laidZ hT, (Chg.refl _ _ _ _ _).laidZ st.sub hT, ?_⟩
  obtain ⟨r1, r2⟩ := hr (upd Z T (.tup [x, y])) (upd H T (.tup [x, y])) (le.trans le')
  exact R_vl ⟨T, [x, y], rfl, upd_same, x, [y], [], [], rfl, r1, ⟨y, [], [], [], rfl, r2, ⟨rfl, rfl⟩, rfl⟩, rfl⟩
theorem enum0_at : ∀ {n : Nat} {xs : List D} {i : Nat} {d : D}, (enum0 n xs)[i]? = some d → ∃ a, xs[i]? = some a ∧ d = .tup [.int ((n + i : Nat) : Int), a]
  | _, [], _, _, h => by simp [enum0] at h
  | n, x :: xs, 0, d, h => by simp [enum0] at h; exact ⟨x, rfl, by rw [← h]; rfl⟩
  | n, x :: xs, i + 1, d, h => by
    simp only [enum0, List.getElem?_cons_succ] at h ⊢
    obtain ⟨a, h1, h2⟩ := enum0_at h
    exact ⟨a, h1, by rw [h2]; congr 4; omega⟩
theorem enum0_len : ∀ {n : Nat} {xs : List D}, (enum0 n xs).length = xs.length
  | _, [] => rfl
  | n, x :: xs => by rw [enum0, List.length_cons, enum0_len]; rfl
theorem Pes.two {w : List Nat} {E E' : En} {σ : Sl} {Fs Fs' Fds : List (List Addr)} {l : List Val} {xs ys : List D} {vs : List V} (q : Pes K FA w Z H E Fs σ l E' vs Z' H' Fds Fs') (e : ds l = [.lst xs, .lst ys]) :
    ∃ Z2 a b us ws, Stt K FA Z2 H' E' σ Fs' ∧ Chg w Z H E Fs Z2 H' E' Fs' ∧ vs = [.ref a, .ref b] ∧ Z2 a = some (.lst us) ∧ Z2 b = some (.lst ws) ∧ Items K FA Z2 xs us ∧ Items K FA Z2 ys ws := by
  obtain ⟨s, c, r⟩ := q.shared
  rw [e] at r
  obtain ⟨v, us', A, B, rfl, r1, ⟨v2, us2, A2, B2, rfl, r2, ⟨rfl, rfl⟩, _⟩, _⟩ := r
  obtain ⟨a, us, G, rfl, ha, hr, _⟩ := r1
  obtain ⟨b, ws, G2, rfl, hb, hr2, _⟩ := r2
  exact ⟨_, a, b, us, ws, s, c, rfl, ha, hb, .sh hr, .sh hr2⟩
end
section
variable {X : Cx} {B : Bk} {pos p pos' tpos : Pos} {Z1 : Hp} {G : Hp → Prop} {body : List Stmt} {b : Ss} {ee ef tgE : Expr} {elts : List Expr} {kk : Nat} {e f : Ex} {T : Tg}
theorem pa_one {t : TE} (he : PE X ee t) (hs : starEach [ee] X.env = (false, eval ee X.env) :: starEach [] X.env := by rfl) : PA X [ee] (tCons t tNil) := pa_cons he pa_nil hs
theorem var_src {K : PySem.W.Frag} {FA : Nat → Addr → Prop} {Z H : Hp} {E E' : En} {σ : Sl} {Fs : List (List Addr)} {i : Nat} {w : List Nat} {Φ : Phi} {xs : List Val} {kvs : List (D × D)} (st : Stt K FA Z H E σ Fs) (h1 : evit Φ w [.var i] E = some (xs, E')) (e : ds xs = [.dic false kvs]) :
    ∃ Z2 Fs2 d kv, σ[i]? = some (some (.ref d)) ∧ Stt K FA Z2 H E' σ Fs2 ∧ Chg (wrs [.var i]) Z H E Fs Z2 H E' Fs2 ∧ Z2 d = some (.dK kv) ∧ RK K FA Z2 H .sh kvs kv [] := by
  obtain ⟨x, E1, h0, hcase⟩ := evit1 h1
  unfold ev at h0
  cases e1 : E[i]? with
  | none => rw [e1] at h0; cases h0
  | some o =>
    rw [e1] at h0
    cases o with
    | none => cases h0
    | some y =>
      simp only [Option.some.injEq, Prod.mk.injEq] at h0
      obtain ⟨rfl, rfl⟩ := h0
      obtain ⟨v, hv, ro⟩ := st.re.get e1
      cases v with
      | none => exact ro.elim
      | some v =>
        have pe : Pe K FA [] (pr (.var i)) Z H E Fs σ y E v Z H (Fs.getD i []) Fs := ⟨st, Chg.refl _ _ _ _ _, ro, fun z => (by simp [pr] at z), fun j b z => by
          simp [pr, isIx] at z
          obtain ⟨rfl, rfl⟩ := z
          exact ⟨fun a ha => ha, fun _ => ⟨by rw [List.getD_eq_getElem?_getD, e1]; rfl, rfl⟩⟩⟩
        obtain ⟨Z2, Fs2, s2, c2, d2, _, _, _, k2⟩ := pe.src hcase
        rw [d2] at e
        simp only [List.cons.injEq, and_true] at e
        obtain ⟨d, G, rfl, hq, ef⟩ := k2 false kvs e
        rcases hq with ⟨_, kv, hc, hn, hr⟩ | ⟨z, _⟩
        · have e0 := RK_sh kvs hr
          subst e0
          exact ⟨Z2, Fs2, d, kv, hv, s2, c2.mono (wrs1 (.var i)), hc, hr⟩
        · cases z
theorem RK_length {K : PySem.W.Frag} {FA : Nat → Addr → Prop} {Z H : Hp} {kvs : List (D × D)} {kv : List (Key × V)} {w F} (h : RK K FA Z H w kvs kv F) : kv.length = kvs.length := RK_len h
theorem keys_items {l : List D} {its : List D} (h : items .keys l = some its) : (∃ kvs, l = [.dic false kvs] ∧ intKeys kvs = true ∧ its = kvs.map (·.1)) ∨ items .of l = some its := by
  rcases l with _ | ⟨a, _ | ⟨b, l⟩⟩
  · simp [items] at h
  · cases a with
    | dic t kvs =>
      cases t with
      | false =>
        simp only [items, Option.ite_none_right_eq_some, Option.some.injEq] at h
        exact .inl ⟨kvs, rfl, h.1, h.2.symm⟩
      | true => simp [items] at h
    | _ => first | exact .inr h | (simp [items] at h)
  · cases a <;> simp [items] at h
theorem ss_forN {i : Nat} {x : Str} {px : Pos} (hN : X.N[i]? = some x) (hv : Vis X.env.scope x) (hg : PG X tgE (tgT B.K T)) (hb : PSs X body (SS B b)) (hd : (x == ("__debug__" : Str)) = false := by decide) (hcd : (x == ("__classdict__" : Str)) = false := by decide) (hp : PassesOwn (model X.prog X.w) X.A X.env X.xe := by first | exact PassesOwn.never | exact PassesOwn.leaving | assumption) (hc : X.calm = true := by rfl) (hK : X.K = B.K := by rfl) (hs : ∀ y, foldedSetIterable (.Name x px) X.env y = pure y := by intro _; rfl) :
    PS X (.For tgE (.Name x px) body [] pos) (SS B (.for_ T .keys [.var i] b)) := by
  have he : PE X (.Name x px) (SE B (.var i)) := sx_var hN hv hd hcd
  have base := ss_for (b := b) (T := T) (pos := pos) he hg hb hp hc hK hs
  have kd := ps_for (pos := pos) hp hc (pi_keys (pe_var (pos := px) hN hv hd hcd)) hg hb hs
  refine ((base.or kd).or (ps_lock kd)).imp fun D σ H h => ?_
  obtain ⟨Z, E, Fs, o, s, hx, q⟩ := h
  obtain ⟨xs, E1, its, h1, h2, h3⟩ := ex_for hx
  have h1 : evit B.Φ (wrS b ++ tgs T) [.var i] E = some (xs, E1) := h1
  rcases keys_items h2 with ⟨kvs, ed, hi, rfl⟩ | h2'
  · obtain ⟨Z2, Fs2, d, kv, hσ, s2, c2, hz, hr⟩ := var_src s h1 ed
    have q2 := for_post q c2
    rcases s2.sub d _ hz with hH | ⟨_, od, hH⟩
    · refine .inr ⟨d, .dK kv, hH, trivial, fun od => ?_⟩
      have s3 := s2.frz (od := od) hz trivial
      refine ⟨_, hσ, d, od, rfl, .inl ⟨kv, upd_same, ?_⟩⟩
      refine for_se (walk_keys (d := d) (o := od) (kvs := kv)) s3 (by rw [List.length_map, RK_length hr]) h3 (fun {H' Z' E' Fs'} c s' => ?_) (yld_keys hr hi) ?_
      · refine c.frame d _ upd_same fun z => ?_
        rw [s2.zf d z.flat] at hz
        cases hz
      · cases o with
        | nx E' =>
          intro σ' H' Z' Fs' s' c' g'
          have hf : H' d = some (.frz od (.dK kv)) := c'.frame d _ upd_same fun z => by
            rw [s2.zf d z.flat] at hz
            cases hz
          exact ⟨hf, q2 σ' _ Z' Fs' (s'.thaw (c'.le d _ hz)) (c'.thaw hH) g'⟩
        | rs y E' =>
          intro σ' H0 H' Z' Fs' cls dd s' c' lk g' v fr
          have hf : H0 d = some (.frz od (.dK kv)) := c'.frame d _ upd_same fun z => by
            rw [s2.zf d z.flat] at hz
            cases hz
          refine q2 σ' _ H' Z' Fs' cls dd (s'.thaw (c'.le d _ hz)) (c'.thaw hH) (fun a => ?_) g' v (fun dx e => ⟨?_, (fr dx e).2⟩)
          by_cases e : a = d
          · rw [e, upd_same]
            refine .inr ⟨.dK kv, od, trivial, c'.le d _ hz, rfl, ?_⟩
            rcases lk d with z | ⟨u, o, hu, _, h1, _⟩
            · rw [z, hf]
            · rw [hf] at h1
              cases h1
              exact hu.elim
          · rw [upd_ne e]
            exact lk a
          · have := (fr dx e).1
            by_cases e2 : dx = d
            · rw [e2, upd_same] at this; cases this
            · rwa [upd_ne e2] at this
        | rt y E' =>
          intro v σ' H' Z' Fd Fs' p' g'
          have hf : H' d = some (.frz od (.dK kv)) := p'.ch.frame d _ upd_same fun z => by
            rw [s2.zf d z.flat] at hz
            cases hz
          exact ⟨hf, q2 v σ' _ Z' Fd Fs' (p'.thaw hH hz) g'⟩
    · refine .inl (.inr ⟨_, hσ, d, od, rfl, .inl ⟨kv, hH, ?_⟩⟩)
      refine for_se (walk_keys (d := d) (o := od) (kvs := kv)) s2 (by rw [List.length_map, RK_length hr]) h3 (fun {H' Z' E' Fs'} c s' => ?_) (yld_keys hr hi) q2
      refine c.frame d _ hH fun z => ?_
      rw [s2.zf d z.flat] at hz
      cases hz
  · refine .inl (.inl ⟨Z, E, Fs, o, s, ?_, ?_⟩)
    · simp only [ex, Option.bind_eq_bind, Option.bind_eq_some_iff, Prod.exists]
      exact ⟨xs, E1, h1, its, h2', h3⟩
    · cases o with
      | nx E' => exact q
      | rt y E' => exact q
      | rs y E' => exact q
theorem lc_keysN {shr : Bool} {elt cond : Ex} {i : Nat} {σ : Sl} {H : Hp} {Q : VK} (h : SE B (.comp shr elt T .keys [.var i] cond) σ H Q) :
    (tLc (iOf B.K (SE B (.var i))) (tgT B.K T) (ST B cond) (SE B elt) (tgs T) σ H Q ∨ tLc (iKeys (tVar i)) (tgT B.K T) (ST B cond) (SE B elt) (tgs T) σ H Q) ∨ tLockE (tLc (iKeys (tVar i)) (tgT B.K T) (ST B cond) (SE B elt) (tgs T)) σ H Q := by
  obtain ⟨Z, E, Fs, x', E', s, hx, kq⟩ := h
  obtain ⟨xs, E1, its, acc, E2, h1, h2, h3, h4, h5, rfl, rfl⟩ := ev_comp hx
  have h1 : evit B.Φ (lcW T elt cond) [.var i] E = some (xs, E1) := h1
  rcases keys_items h2 with ⟨kvs, ed, hi, rfl⟩ | h2'
  · obtain ⟨Z2, Fs2, d, kv, hσ, s2, c2, hz, hr⟩ := var_src s h1 ed
    rcases s2.sub d _ hz with hH | ⟨_, od, hH⟩
    · refine .inr ⟨d, .dK kv, hH, trivial, fun od => ?_⟩
      have s3 := s2.frz (od := od) hz trivial
      refine ⟨_, hσ, d, od, rfl, .inl ⟨kv, upd_same, fun D0 hD => ?_⟩⟩
      have hD' : H D0 = none := by
        by_cases e : D0 = d
        · subst e; rw [upd_same] at hD; cases hD
        · rwa [upd_ne e] at hD
      refine lc_se (walk_keys (d := d) (o := od) (kvs := kv)) s3 h4 (by rw [List.length_map, RK_length hr]) h3 h5 (fun {H' Z' E' Fs'} c s' => ?_) (yld_keys hr hi) hD ?_
      · refine c.frame d _ upd_same fun z => ?_
        rw [s2.zf d z.flat] at hz
        cases hz
      · intro H' Z' Fd Fs' p'
        have hf : H' d = some (.frz od (.dK kv)) := p'.ch.frame d _ upd_same fun z => by
          rw [s2.zf d z.flat] at hz
          cases hz
        exact ⟨hf, comp_post kq c2 _ Z' Fd Fs' (p'.thaw hH hz)⟩
    · refine .inl (.inr ⟨_, hσ, d, od, rfl, .inl ⟨kv, hH, fun D0 hD => ?_⟩⟩)
      refine lc_se (walk_keys (d := d) (o := od) (kvs := kv)) s2 h4 (by rw [List.length_map, RK_length hr]) h3 h5 (fun {H' Z' E' Fs'} c s' => ?_) (yld_keys hr hi) hD (comp_post kq c2)
      refine c.frame d _ hH fun z => ?_
      rw [s2.zf d z.flat] at hz
      cases hz
  · refine .inl (.inl (lc_of (shr := shr) ⟨Z, E, Fs, _, _, s, ?_, kq⟩))
    simp only [ev, Option.bind_eq_bind, Option.bind_eq_some_iff, Prod.exists]
    refine ⟨xs, E1, h1, its, h2', ?_⟩
    rw [if_pos ⟨h3, h4⟩]
    simp only [Option.bind_eq_some_iff, Prod.exists, Option.some.injEq, Prod.mk.injEq]
    exact ⟨acc, E2, h5, ⟨rfl, rfl⟩, rfl⟩
theorem sx_compN {shr : Bool} {elt cond : Ex} {eltE : Expr} {ifs : List Expr} {scope : Scope} {i : Nat} {x : Str} {px : Pos} (own : List (Str × Nat)) (hi : X.N[i]? = some x) (hv : Vis X.env.scope x) (ok : blkC X.N X.env.scope scope own = true) (hg : BlkPG X scope tgE (tgT B.K T)) (ht : BlkPT X scope ifs (ST B cond)) (hel : BlkPE X scope eltE (SE B elt)) (hN : X.N.Nodup)
    (hd : (x == ("__debug__" : Str)) = false := by decide) (hcd : (x == ("__classdict__" : Str)) = false := by decide) (ho : own.map (·.2) = tgs T := by rfl) (hc : X.calm = true := by rfl) (hK : X.K = B.K := by rfl) (hs : ∀ y, foldedSetIterable (.Name x px) X.env y = pure y := by intro _; rfl) :
    PE X (.ListComp eltE [⟨tgE, .Name x px, ifs, 0⟩] scope pos) (SE B (.comp shr elt T .keys [.var i] cond)) := by
  have kd := pe_lc (pos := pos) hc hN (pi_keys (tg := tgE) (pe_var (pos := px) hi hv hd hcd)) (blkOk_by ok) hg ht hel hs
  refine (((pe_lc hc hN (src_of (T := T) (tgE := tgE) (sx_var hi hv hd hcd) hK).pi (blkOk_by ok) hg ht hel hs).or kd).or (pe_lock kd)).imp fun σ H Q h => ?_
  rw [ho]
  exact lc_keysN h
end
end BS

set_option Elab.async false
set_option linter.all false
set_option maxRecDepth 100000
set_option maxHeartbeats 2000000

namespace BS
open PySem PySem.Spec PyProof.Rows L2
section
variable {K : PySem.W.Frag} {FA : Nat → Addr → Prop} {Z Z' H H' : Hp}
def Kid (Z H : Hp) (v : V) (k : D) (u : V) : Prop := ∃ p, v = .ref p ∧ ((∃ vs i, k = .int i ∧ H p = some (.lst vs) ∧ atI vs i = some u) ∨ (∃ vs i, k = .int i ∧ Z p = some (.tup vs) ∧ atI vs i = some u) ∨ (∃ kv key, keyD k = some key ∧ H p = some (.dK kv) ∧ valV kv key = some u))
def PathV (Z H : Hp) : V → List D → V → Prop
  | v, [], u => u = v
  | v, k :: ks, u => ∃ x, Kid Z H v k x ∧ PathV Z H x ks u
theorem Kid.det (s : Sub Z H) {v u u' : V} {k : D} (h : Kid Z H v k u) (h' : Kid Z H v k u') : u = u' := by
  obtain ⟨p, rfl, h⟩ := h
  obtain ⟨p', e, h'⟩ := h'
  cases e
  rcases h with ⟨vs, i, rfl, a, b⟩ | ⟨vs, i, rfl, a, b⟩ | ⟨kv, key, a0, a, b⟩ <;> rcases h' with ⟨vs', i', e', a', b'⟩ | ⟨vs', i', e', a', b'⟩ | ⟨kv', key', a0', a', b'⟩
  · cases e'; rw [a] at a'; cases a'; rw [b] at b'; cases b'; rfl
  · have := tup_sub s a'; rw [a] at this; cases this
  · rw [a] at a'; cases a'
  · have := tup_sub s a; rw [a'] at this; cases this
  · cases e'; rw [a] at a'; cases a'; rw [b] at b'; cases b'; rfl
  · have := tup_sub s a; rw [a'] at this; cases this
  · rw [a] at a'; cases a'
  · have := tup_sub s a'; rw [a] at this; cases this
  · rw [a0] at a0'; cases a0'; rw [a] at a'; cases a'; rw [b] at b'; cases b'; rfl
theorem PathV.det (s : Sub Z H) : ∀ {ks : List D} {v u u' : V}, PathV Z H v ks u → PathV Z H v ks u' → u = u'
  | [], _, _, _, h, h' => by rw [show _ = _ from h, show _ = _ from h']
  | k :: ks, v, u, u', ⟨x, a, b⟩, ⟨x', a', b'⟩ => by
    have := a.det s a'
    subst this
    exact PathV.det s b b'
theorem Rs_hole : ∀ {xs : List D} {w : Ow} {vs : List V} {G : List Addr} {j : Nat} {x : D}, Rs K FA Z H w xs vs G → xs[j]? = some x → ∃ u F1 C, vs[j]? = some u ∧ R K FA Z H w x u F1 ∧ G.Perm (F1 ++ C) ∧
    ∀ {Z2 H2 : Hp} {x2 : D} {F2 : List Addr}, Le Z Z2 → (∀ a ∈ C, H2 a = H a) → R K FA Z2 H2 w x2 u F2 → ∃ Gn, Gn.Perm (F2 ++ C) ∧ Rs K FA Z2 H2 w (xs.set j x2) vs Gn
  | [], _, _, _, _, _, _, e => by simp at e
  | y :: xs, w, _, _, 0, x, ⟨u, us, A, B, e0, r1, r2, e⟩, ex => by
    subst e0
    subst e
    simp only [List.getElem?_cons_zero, Option.some.injEq] at ex
    subst ex
    exact ⟨u, A, B, rfl, r1, List.Perm.refl _, fun {Z2 H2 x2 F2} le ag r => ⟨F2 ++ B, List.Perm.refl _, u, us, F2, B, rfl, r, Rs_keep le xs ag r2, rfl⟩⟩
  | y :: xs, w, _, _, j + 1, x, ⟨u, us, A, B, e0, r1, r2, e⟩, ex => by
    subst e0
    subst e
    simp only [List.getElem?_cons_succ] at ex
    obtain ⟨u', F1, C, h1, h2, hp, h3⟩ := Rs_hole r2 ex
    have pm : ∀ X : List Addr, (A ++ (X ++ C)).Perm (X ++ (A ++ C)) := fun X => by
      rw [← List.append_assoc, ← List.append_assoc]
      exact List.Perm.append_right _ List.perm_append_comm
    refine ⟨u', F1, A ++ C, by simpa using h1, h2, (List.Perm.append_left A hp).trans (pm F1), fun {Z2 H2 x2 F2} le ag r => ?_⟩
    obtain ⟨Gn, g1, g2⟩ := h3 le (fun a ha => ag a (List.mem_append_right _ ha)) r
    exact ⟨A ++ Gn, (List.Perm.append_left A g1).trans (pm F2), u, us, A, Gn, rfl, R_keep le y (fun a ha => ag a (List.mem_append_left _ ha)) r1, g2, rfl⟩
theorem dget_has {kvs : List (D × D)} {k x : D} (h : dget kvs k = some x) : dhas kvs k = true := by rw [dhas_get, h]; rfl
theorem RK_hole : ∀ {kvs : List (D × D)} {w : Ow} {kv : List (Key × V)} {G : List Addr} {k x : D} {key : Key}, RK K FA Z H w kvs kv G → keyD k = some key → (kv.map (·.1)).Nodup → dget kvs k = some x → ∃ u F1 C, valV kv key = some u ∧ R K FA Z H w x u F1 ∧ G.Perm (F1 ++ C) ∧
    ∀ {Z2 H2 : Hp} {x2 : D} {F2 : List Addr}, Le Z Z2 → (∀ a ∈ C, H2 a = H a) → R K FA Z2 H2 w x2 u F2 → ∃ Gn, Gn.Perm (F2 ++ C) ∧ RK K FA Z2 H2 w (kvs.map fun p => if keq p.1 k then (p.1, x2) else p) kv Gn
  | [], _, _, _, _, _, _, _, _, _, e => by simp [dget] at e
  | (a, b) :: kvs, w, _, _, k, x, key, ⟨k0, v0, us, A, B, e0, ek, r1, r2, e⟩, hk, hn, ex => by
    subst e0
    subst e
    rw [List.map_cons, List.nodup_cons] at hn
    have ekk := keq_key ek hk
    unfold dget at ex
    rw [ekk] at ex
    by_cases q : k0 = key
    · rw [decide_eq_true q, if_pos rfl] at ex
      cases ex
      have no : ∀ {l : List (D × D)} {m : List (Key × V)} {F : List Addr} {x2 : D}, RK K FA Z H w l m F → key ∉ m.map (·.1) → (l.map fun p => if keq p.1 k then (p.1, x2) else p) = l := fun {l} => by
        induction l with
        | nil => intro m F x2 h _; rfl
        | cons c l ih =>
          intro m F x2 h hn'
          obtain ⟨c1, c2⟩ := c
          obtain ⟨k1, v1, us1, B1, B2, f0, fk, g1, g2, f⟩ := h
          subst f0
          rw [List.map_cons, List.mem_cons, not_or] at hn'
          have ne : ¬ k1 = key := fun z => hn'.1 z.symm
          rw [List.map_cons, ih g2 hn'.2]
          simp only [keq_key fk hk, decide_eq_true_eq, if_neg ne]
      have i1 := fun x2 => no (x2 := x2) r2 (by rw [← q]; exact hn.1)
      refine ⟨v0, A, B, by unfold valV; rw [List.find?_cons, decide_eq_true q]; rfl, r1, List.Perm.refl _, fun {Z2 H2 x2 F2} le ag r => ⟨F2 ++ B, List.Perm.refl _, ?_⟩⟩
      rw [List.map_cons, i1]
      simp only [ekk, decide_eq_true q, if_true]
      exact ⟨k0, v0, us, F2, B, rfl, ek, r, RK_keep le kvs ag r2, rfl⟩
    · rw [decide_eq_false q, if_neg (by decide)] at ex
      obtain ⟨u', F1, C, h1, h2, hp, h3⟩ := RK_hole r2 hk hn.2 ex
      have pm : ∀ X : List Addr, (A ++ (X ++ C)).Perm (X ++ (A ++ C)) := fun X => by
        rw [← List.append_assoc, ← List.append_assoc]
        exact List.Perm.append_right _ List.perm_append_comm
      refine ⟨u', F1, A ++ C, ?_, h2, (List.Perm.append_left A hp).trans (pm F1), fun {Z2 H2 x2 F2} le ag r => ?_⟩
      · unfold valV at h1 ⊢
        rw [List.find?_cons, decide_eq_false q]
        exact h1
      · obtain ⟨Gn, g1, g2⟩ := h3 le (fun a ha => ag a (List.mem_append_right _ ha)) r
        refine ⟨A ++ Gn, (List.Perm.append_left A g1).trans (pm F2), ?_⟩
        rw [List.map_cons]
        simp only [ekk, decide_eq_false q, Bool.false_eq_true, if_false]
        exact ⟨k0, v0, us, A, Gn, rfl, ek, R_keep le b (fun a ha => ag a (List.mem_append_left _ ha)) r1, g2, rfl⟩

theorem R_kid {d d1 k : D} {v : V} {F : List Addr} (h : R K FA Z H .deep d v F) (e : kidD d k = some d1) : ∃ u F1 C, R K FA Z H .deep d1 u F1 ∧ F.Perm (F1 ++ C) ∧
    (∀ {Z2 H2 : Hp}, Le Z Z2 → (∀ a ∈ C, H2 a = H a) → Kid Z2 H2 v k u) ∧
    ∀ {Z2 H2 : Hp} {x2 : D} {F2 : List Addr}, Le Z Z2 → (∀ a ∈ C, H2 a = H a) → R K FA Z2 H2 .deep x2 u F2 → ∃ Fn, Fn.Perm (F2 ++ C) ∧ R K FA Z2 H2 .deep (putD d k x2) v Fn := by
  cases d with
  | lst xs =>
    cases k with
    | int i =>
      simp only [kidD, atI, Option.bind_eq_some_iff] at e
      obtain ⟨j, ej, ex⟩ := e
      obtain ⟨p, vs, G, rfl, hp, hr, rfl⟩ := h
      obtain ⟨u, F1, C, h1, h2, hpm, h3⟩ := Rs_hole hr ex
      have pm : ∀ {X : List Addr}, (p :: (X ++ C)).Perm (X ++ (p :: C)) := List.perm_middle.symm
      refine ⟨u, F1, p :: C, h2, (List.Perm.cons p hpm).trans pm, fun {Z2 H2} le ag => ⟨p, rfl, .inl ⟨vs, i, rfl, (ag p List.mem_cons_self).trans hp, ?_⟩⟩, fun {Z2 H2 x2 F2} le ag r => ?_⟩
      · unfold atI
        rw [Rs_len hr, ej]
        exact h1
      · obtain ⟨Gn, g1, g2⟩ := h3 le (fun a ha => ag a (List.mem_cons_of_mem _ ha)) r
        refine ⟨p :: Gn, (List.Perm.cons p g1).trans pm, ?_⟩
        simp only [putD, ej]
        exact ⟨p, vs, Gn, rfl, (ag p List.mem_cons_self).trans hp, g2, rfl⟩
    | _ => simp [kidD] at e
  | tup xs =>
    cases k with
    | int i =>
      simp only [kidD, atI, Option.bind_eq_some_iff] at e
      obtain ⟨j, ej, ex⟩ := e
      obtain ⟨p, vs, rfl, hp, hr⟩ := h
      obtain ⟨u, F1, C, h1, h2, hpm, h3⟩ := Rs_hole hr ex
      refine ⟨u, F1, C, h2, hpm, fun {Z2 H2} le ag => ⟨p, rfl, .inr (.inl ⟨vs, i, rfl, le _ _ hp, ?_⟩)⟩, fun {Z2 H2 x2 F2} le ag r => ?_⟩
      · unfold atI
        rw [Rs_len hr, ej]
        exact h1
      · obtain ⟨Gn, g1, g2⟩ := h3 le ag r
        refine ⟨Gn, g1, ?_⟩
        simp only [putD, ej]
        exact ⟨p, vs, rfl, le _ _ hp, g2⟩
    | _ => simp [kidD] at e
  | dic t kvs =>
    cases t with
    | true => simp [kidD] at e
    | false =>
      simp only [kidD] at e
      split at e
      · rename_i hk
        obtain ⟨key, hkey⟩ := Option.isSome_iff_exists.mp hk
        obtain ⟨p, G, rfl, hq, rfl⟩ := h
        rcases hq with ⟨_, kv, hp, hn, hr⟩ | ⟨z, _⟩
        · obtain ⟨u, F1, C, h1, h2, hpm, h3⟩ := RK_hole hr hkey hn e
          have pm : ∀ {X : List Addr}, (p :: (X ++ C)).Perm (X ++ (p :: C)) := List.perm_middle.symm
          refine ⟨u, F1, p :: C, h2, (List.Perm.cons p hpm).trans pm, fun {Z2 H2} le ag => ⟨p, rfl, .inr (.inr ⟨kv, key, hkey, (ag p List.mem_cons_self).trans hp, h1⟩)⟩, fun {Z2 H2 x2 F2} le ag r => ?_⟩
          obtain ⟨Gn, g1, g2⟩ := h3 le (fun a ha => ag a (List.mem_cons_of_mem _ ha)) r
          refine ⟨p :: Gn, (List.Perm.cons p g1).trans pm, ?_⟩
          simp only [putD]
          unfold dput
          rw [if_pos (dget_has e)]
          exact ⟨p, Gn, rfl, .inl ⟨rfl, kv, (ag p List.mem_cons_self).trans hp, hn, g2⟩, rfl⟩
        · cases z
      · cases e
  | _ => simp [kidD] at e
theorem R_path : ∀ {ks : List D} {d d1 : D} {v : V} {F : List Addr}, R K FA Z H .deep d v F → kidsD d ks = some d1 → ∃ u F1 C, R K FA Z H .deep d1 u F1 ∧ F.Perm (F1 ++ C) ∧
    (∀ {Z2 H2 : Hp}, Le Z Z2 → (∀ a ∈ C, H2 a = H a) → PathV Z2 H2 v ks u) ∧
    ∀ {Z2 H2 : Hp} {x2 : D} {F2 : List Addr}, Le Z Z2 → (∀ a ∈ C, H2 a = H a) → R K FA Z2 H2 .deep x2 u F2 → ∃ Fn, Fn.Perm (F2 ++ C) ∧ R K FA Z2 H2 .deep (putsD d ks x2) v Fn
  | [], d, d1, v, F, h, e => by
    cases e
    exact ⟨v, F, [], h, by simp, fun _ _ => rfl, fun {Z2 H2 x2 F2} _ _ r => ⟨F2, by simp, r⟩⟩
  | k :: ks, d, d1, v, F, h, e => by
    simp only [kidsD, Option.bind_eq_some_iff] at e
    obtain ⟨c, e1, e2⟩ := e
    obtain ⟨x, F1, C, r1, p1, kd, ex⟩ := R_kid h e1
    obtain ⟨u, F2, C2, r2, p2, kd2, ex2⟩ := R_path r1 e2
    refine ⟨u, F2, C2 ++ C, r2, ?_, fun {Z2 H2} le ag => ⟨x, kd le fun a ha => ag a (List.mem_append_right _ ha), kd2 le fun a ha => ag a (List.mem_append_left _ ha)⟩, fun {Z2 H2 x2 F3} le ag r => ?_⟩
    · rw [← List.append_assoc]
      exact p1.trans (List.Perm.append_right C p2)
    · obtain ⟨Fn, q1, q2⟩ := ex2 le (fun a ha => ag a (List.mem_append_left _ ha)) r
      obtain ⟨Fm, s1, s2⟩ := ex le (fun a ha => ag a (List.mem_append_right _ ha)) q2
      refine ⟨Fm, ?_, ?_⟩
      · rw [← List.append_assoc]
        exact s1.trans (List.Perm.append_right C q1)
      · simp only [putsD, e1]
        exact s2

theorem Chg.slot {w : List Nat} {E E' : En} {Fs Fs' : List (List Addr)} {σ : Sl} {i : Nat} {d d1 : D} {ks : List D} {v0 u : V} (c : Chg w Z H E Fs Z' H' E' Fs') (st : Stt K FA Z H E σ Fs) (st' : Stt K FA Z' H' E' σ Fs') (hi : i ∉ w) (e : E[i]? = some (some (d, .deep))) (hσ : σ[i]? = some (some v0)) (hk : kidsD d ks = some d1) (hp : PathV Z H v0 ks u) : PathV Z' H' v0 ks u := by
  obtain ⟨v, hv, ro⟩ := st.re.get e
  rw [hσ] at hv
  cases hv
  obtain ⟨u', F1, C, r1, p1, kd, _⟩ := R_path (show R K FA Z H .deep d v0 (Fs.getD i []) from ro) hk
  have := (kd (Le.refl _) fun _ _ => rfl).det st.sub hp
  subst this
  refine kd c.le fun a ha => ?_
  have hm : a ∈ Fs.getD i [] := p1.mem_iff.mpr (List.mem_append_right _ ha)
  cases q : H a with
  | none => exact absurd q (st.re.there (mem_flat hm))
  | some o => exact c.frame a o q fun ⟨j, hj, hjm⟩ => hi (flat_inj st.nd hm hjm ▸ hj)
end
section
variable {X : Cx} {B : Bk} {pos p : Pos} {ea ek : Expr} {a k : Ex}

def SQ (B : Bk) (p : Ex) : TE := fun σ H Q => ∃ Z E Fs ks E' d, Stt B.K B.FA Z H E σ Fs ∧ evk B.Φ p E = some (ks, E') ∧ root p ∉ wr p ∧ E[root p]? = some (some (d, .deep)) ∧ (kidsD d ks).isSome ∧
  ∀ u H' Z' Fs' v0, Stt B.K B.FA Z' H' E' σ Fs' → Chg (wr p) Z H E Fs Z' H' E' Fs' → σ[root p]? = some (some v0) → PathV Z' H' v0 ks u → Q u H'
end
end BS

set_option Elab.async false
set_option linter.all false
set_option maxRecDepth 100000
set_option maxHeartbeats 2000000

namespace BS
open PySem PySem.Spec PyProof.Rows L2
section
variable {K : PySem.W.Frag} {FA : Nat → Addr → Prop} {Z Z' H H' : Hp}

def MtOk (K : PySem.W.Frag) (FA : Nat → Addr → Prop) (m : Mt) (r : V → List V → Hp → VK → Prop) : Prop :=
  ∀ {ys : List D} {xs : List Val} {d' res : D} {Z H : Hp} {vs us : List V} {Fds : List (List Addr)} {q : Addr} {w0 : Ow} {G : List Addr}, mutD m (ds xs) (.lst ys) = some (d', res) → Sub Z H → RL K FA Z H xs us Fds → H q = some (.lst vs) → Rs K FA Z H w0 ys vs G →
    ∃ ys' vs' ur, d' = .lst ys' ∧ plain res = true ∧ (∀ w H', R K FA Z H' w res ur []) ∧
      (∀ {Zz : Hp} {w : Ow} {A C : List Addr}, kid w = w → Sub Zz H → Rs K FA Zz H w ys vs A → Rs K FA Zz H w (ds xs) us C → ∃ G' L, Rs K FA Zz H w ys' vs' G' ∧ (G' ++ L).Perm (A ++ C)) ∧
      ∀ Q : VK, Q ur (upd H q (.lst vs')) → r (.ref q) us H Q
def rInsert : V → List V → Hp → VK → Prop := fun x vs H Q => ∃ (l : Addr) (xs : List V) (i : Int) (y : V), x = .ref l ∧ vs = [.int i, y] ∧ H l = some (.lst xs) ∧ xs.length < sizeLine ∧ 0 ≤ i ∧ i < 2 ^ 63 ∧ Q .non (upd H l (.lst (xs.take i.toNat ++ [y] ++ xs.drop i.toNat)))
end
section
variable {X : Cx} {B : Bk} {pos p apos : Pos} {e1 : Expr} {es : List Expr} {a1 : Ex} {as : List Ex} {i : Nat} {x : Str} {m : Mt}
theorem Pe.res {K : PySem.W.Frag} {FA : Nat → Addr → Prop} {w : List Nat} {Z H Z' H' : Hp} {E E' : En} {Fs Fs' : List (List Addr)} {σ : Sl} {e : Ex} {d : D} {u : V} {w' : Ow} (he : isPl e = false) (s : Stt K FA Z' H' E' σ Fs') (c : Chg w Z H E Fs Z' H' E' Fs') (r : R K FA Z' H' .deep d u []) : Pe K FA w (pr e) Z H E Fs σ (d, .deep) E' u Z' H' [] Fs' :=
  ⟨s, c, r, fun _ => ⟨by simpa using s.nd, fun _ h => (by cases h), fun _ h => (by cases h)⟩, fun _ _ z => by simp [pr, he] at z⟩

end
end BS

set_option Elab.async false
set_option linter.all false
set_option maxRecDepth 100000
set_option maxHeartbeats 2000000

namespace BS
open PySem PySem.Spec PyProof.Rows L2
section
variable {X : Cx} {B : Bk} {pos p p2 q2 : Pos} {ea : Expr} {a : Ex}
def tLSet (K : PySem.W.Frag) (ta : TE) : TE := fun σ H Q => ta σ H fun x H1 => ∃ (l : Addr) (ns : List Int), x = .ref l ∧ SqL K H1 l (ns.map V.int) ∧ ns.length ≤ 4000 ∧ Q (.int ((dedup ns).length : Nat)) H1
end
end BS

set_option Elab.async false
set_option linter.all false
set_option maxRecDepth 100000
set_option maxHeartbeats 4000000

namespace BS
open PySem PySem.Spec PyProof.Rows L2
section
variable {X : Cx}
def rSrtD : List V → Hp → VK → Prop := fun xs H Q => ∃ (a : Addr) (kvs : List (Key × V)) (ks : List Int), xs = [.ref a] ∧ Rd H a (.dK kvs) ∧ kvs.map (·.1) = ks.map Sum.inl ∧
  ∀ (ys : List Int) (p : Addr), ys.Perm ks → ys.Pairwise (· ≤ ·) → H p = none → Q (.ref p) (upd H p (.lst (ys.map V.int)))
end
section
variable {K : PySem.W.Frag} {FA : Nat → Addr → Prop} {Z H : Hp}

end
def leB (a b : D × V) : Bool := leD a.1 b.1
section
variable {X : Cx}
def rSrtK (K : PySem.W.Frag) : List V → Hp → VK → Prop := fun xs H Q => ∃ (a : Addr) (bs : List (D × V)), xs = [.ref a] ∧ SqL K H a (bs.map (·.2)) ∧ (∀ b ∈ bs, Dp K H b.2 (toPD b.1) ∧ (toPD b.1).depth ≤ 20) ∧ srtOk (bs.map (·.1)) = true ∧
  ∀ p : Addr, H p = none → Q (.ref p) (upd H p (.lst ((bs.mergeSort leB).map (·.2))))
end
section
variable {X : Cx} {B : Bk} {pos p : Pos} {ea : Expr} {a : Ex}
end
end BS

set_option Elab.async false
set_option linter.all false
set_option maxRecDepth 100000
set_option maxHeartbeats 4000000

namespace BS
open PySem PySem.Spec PyProof.Rows L2
section
variable {K : PySem.W.Frag} {FA : Nat → Addr → Prop} {Z H : Hp}
def Form (H : Hp) : D → V → Prop
  | .non, v => v = .non
  | .bl b, v => v = .bl b
  | .int i, v => v = .int i
  | .str s, v => v = .str s
  | .lst _, v => ∃ p vs, v = .ref p ∧ H p = some (.lst vs)
  | .tup _, v => ∃ p vs, v = .ref p ∧ H p = some (.tup vs)
  | _, _ => True
end
end BS

set_option Elab.async false
set_option linter.all false
set_option maxRecDepth 100000
set_option maxHeartbeats 4000000

namespace BS
open PySem PySem.Spec PyProof.Rows L2
def kDd : Key → D
  | .inl i => .int i
  | .inr s => .str s
def eK (a b : List (D × D)) (k : Key) : Bool :=
  match dget a (kDd k), dget b (kDd k) with
  | some x, some y => deqW x y
  | _, _ => false
section
variable {K : PySem.W.Frag} {FA : Nat → Addr → Prop} {Z H : Hp}
end
section
variable {X : Cx} {pins : List (Addr × Obj)} {σ : Sl} {Z H : Hp} {s : Shared} {FA : Nat → Addr → Prop}
end
end BS

set_option Elab.async false
set_option linter.all false
set_option maxRecDepth 100000
set_option maxHeartbeats 4000000

namespace PySem.SeqAt
open AutoSeq1 (wpAny_loadPart')
open MeetsSeq MeetsSeq2 MeetsSeq3 SeqRoads2
section
variable {prog : Program} {w : World}
end
section
variable {prog : Program} {w : World} {A : Around} {s : Shared}
end
end PySem.SeqAt
namespace PySem.W
open PySem PySem.Calls PyProof.Rows PyProof.V PySem.Spec
open PySem.SeqAt (EqIn)
section
variable {prog : Program} {w : World} {K : Type} [DecidableEq K] {knd : KeyKind prog w K} {A : Around} {E : Value → Shared → Prop} {s : Shared}
end
end PySem.W
namespace BS
open PySem PySem.Spec PyProof.Rows L2
def rCmW (X : Cx) (FA : Nat → Addr → Prop) (g : Bool → Bool) : R2 := fun x y H Q => ∃ (d e : D) (w w' : Ow) (F F' : List Addr) (Z : Hp), Sub Z H ∧ R X.K FA Z H w d x F ∧ R X.K FA Z H w' e y F' ∧ shq 30 d e = true ∧ Q (.bl (g (deqW d e))) H
section
variable {X : Cx} {FA : Nat → Addr → Prop}
end
section
variable {X : Cx} {B : Bk} {pos : Pos} {ea eb : Expr} {a b : Ex}
end
end BS

set_option Elab.async false
set_option linter.all false
set_option maxRecDepth 100000
set_option maxHeartbeats 2000000
namespace BS
open PySem PySem.Spec PyProof.Rows L2
section
variable {X : Cx} {B : Bk} {pos : Pos} {body : List Stmt} {b : Ss} {ce : Expr} {c : Ex}
def whlC (Φ : Phi) (c : Ex) (E : En) : Option (Bool × En) := do
  let (x, E) ← ev Φ c E
  match x.1 with
  | .bl b => some (b, E)
  | _ => none
end
end BS

set_option Elab.async false
set_option linter.all false
set_option maxRecDepth 100000
set_option maxHeartbeats 2000000

namespace BS
open PySem PySem.Spec PyProof.Rows L2
section
variable {X : Cx} {B : Bk} {pos p apos : Pos} {ea eb ec : Expr} {a b c : Ex}
def rMinD : List V → Hp → VK → Prop := fun vs H Q => ∃ (a : Addr) (kvs : List (Key × V)) (is : List Int), vs = [V.ref a] ∧ Rd H a (.dK kvs) ∧ kvs.map (·.1) = is.map Sum.inl ∧ is ≠ [] ∧ ∀ m, m ∈ is → (∀ j ∈ is, m ≤ j) → Q (.int m) H
def rMaxD' : List V → Hp → VK → Prop := fun vs H Q => ∃ (a : Addr) (kvs : List (Key × V)) (is : List Int), vs = [V.ref a] ∧ Rd H a (.dK kvs) ∧ kvs.map (·.1) = is.map Sum.inl ∧ is ≠ [] ∧ ∀ m, m ∈ is → (∀ j ∈ is, j ≤ m) → Q (.int m) H
end
section
variable {K : PySem.W.Frag} {FA : Nat → Addr → Prop}
end
end BS

set_option Elab.async false
set_option linter.all false
set_option maxRecDepth 100000
set_option maxHeartbeats 2000000

namespace BS
open PySem PySem.Spec PyProof.Rows L2
section
variable {K : PySem.W.Frag} {FA : Nat → Addr → Prop} {Z Z' H H' : Hp}
variable {B : Bk} {T : Tg}
variable {X : Cx} {pos : Pos} {tgE : Expr}
end
end BS

set_option Elab.async false
set_option linter.all false
set_option maxRecDepth 100000
set_option maxHeartbeats 2000000

namespace BS
open PySem PySem.Spec PyProof.Rows L2
section
variable {K : PySem.W.Frag} {FA : Nat → Addr → Prop} {Z Z' H H' : Hp}

end
end BS

set_option Elab.async false
set_option linter.all false
set_option maxRecDepth 100000
set_option maxHeartbeats 2000000

namespace BS
open PySem PySem.Spec PyProof.Rows L2
section
variable {K : PySem.W.Frag} {FA : Nat → Addr → Prop} {Z Z' H H' : Hp}
end
end BS

set_option Elab.async false
set_option linter.all false
set_option maxRecDepth 100000
set_option maxHeartbeats 2000000

namespace BS
open PySem PySem.Spec PyProof.Rows L2

structure PcX (K : PySem.W.Frag) (Z H : Hp) (Fds : List (List Addr)) (x : Exn) (cls : Value) (d : Option Addr) (Z' H0 H' : Hp) : Prop where
  le : Le Z Z'
  zn : ∀ a u, Z' a = some u → Z a = some u ∨ a ∈ Fds.flatten ∨ H a = none
  sub : Sub Z' H0
  frame : ∀ a u, H a = some u → a ∉ Fds.flatten → H0 a = some u
  there : ∀ a, H a ≠ none → H0 a ≠ none
  lk : Lk Z' H0 H'
  err : ErrV K H' x cls d
  fresh : ∀ dx, d = some dx → H dx = none
def spX (K : PySem.W.Frag) (FA : Nat → Addr → Prop) (f : List Val → Option (Val × List (Option Val))) : Sp := fun vs H _ E => ∃ Z xs Fds c w os, Sub Z H ∧ RL K FA Z H xs vs Fds ∧ Fds.flatten.Nodup ∧ (∀ a ∈ Fds.flatten, Z a = none) ∧ f xs = some ((.fn c, w), os) ∧ EB ≤ c ∧
  ∀ cls d Z' H0 H', PcX K Z H Fds (exnOf c) cls d Z' H0 H' → E cls d H'
section
variable {K : PySem.W.Frag} {FA : Nat → Addr → Prop} {Z H : Hp}
theorem inls_RL {σ : Sl} : ∀ {ars : List Ar} {xs : List Val} {vs : List V} {Fds : List (List Addr)}, inls ars = some xs → RA K FA Z H σ ars vs Fds → RL K FA Z H xs vs Fds
  | [], xs, vs, Fds, h, r => by
    simp only [inls, Option.some.injEq] at h
    subst h
    match vs, Fds, r with
    | [], [], _ => exact trivial
  | .inl x :: ars, xs, vs, Fds, h, r => by
    simp only [inls, Option.map_eq_some_iff] at h
    obtain ⟨ys, h1, rfl⟩ := h
    match vs, Fds, r with
    | v :: vs, F :: Fds, r => exact ⟨r.1, inls_RL h1 r.2⟩
  | .inr i :: ars, xs, vs, Fds, h, r => by simp [inls] at h
end
section
variable {X : Cx} {B : Bk} {pos p : Pos} {e : Expr} {es : List Expr} {as : List Ex}
theorem callX_se {g : Nat} {Z H : Hp} {E E1 : En} {σ : Sl} {Fs : List (List Addr)} {x : Exn} {Q : VK} {K' : XK} (st : Stt B.K B.FA Z H E σ Fs) (he : evX B.Φ g as E = some (x, E1))
    (k : ∀ H0 H' Z' Fs' cls d, Stt B.K B.FA Z' H0 E1 σ Fs' → Chg (wrs as) Z H E Fs Z' H0 E1 Fs' → Lk Z' H0 H' → ErrV B.K H' x cls d → Fr d H Fs' → K' cls d H') :
    SAs B as σ H fun vs H1 => spX B.K B.FA (B.Φ (g + RZ)) vs H1 Q K' := by
  simp only [evX, Option.bind_eq_bind, Option.bind_eq_some_iff, Prod.exists] at he
  obtain ⟨ars, E2, h1, xs, h2, h3⟩ := he
  cases hc : B.Φ (g + RZ) xs with
  | none => rw [hc] at h3; cases h3
  | some r =>
    obtain ⟨⟨d, w⟩, os⟩ := r
    rw [hc] at h3
    cases d with
    | fn c =>
      simp only at h3
      split at h3
      · rename_i hb
        simp only [Option.some.injEq, Prod.mk.injEq] at h3
        obtain ⟨rfl, rfl⟩ := h3
        refine ⟨Z, E, Fs, ars, E2, st, h1, eva_ios h1, fun vs H1 Z1 Fds Fs1 q => ?_⟩
        have nd := List.nodup_append.mp q.nd
        refine ⟨Z1, xs, Fds, c, w, os, q.st.sub, inls_RL h2 q.val, nd.1, q.zf, hc, hb, fun cls d Z' H0 H' p => ?_⟩
        have out : ∀ a ∈ Fs1.flatten, a ∉ Fds.flatten := fun a ha hb => nd.2.2 a hb a ha rfl
        have keep : ∀ a ∈ Fs1.flatten, H0 a = H1 a := fun a ha => by
          cases e : H1 a with
          | none => exact absurd e (q.st.re.there ha)
          | some u => exact p.frame a u e (out a ha)
        refine k H0 H' Z' Fs1 cls d ⟨p.sub, RE.keep p.le keep q.st.re, q.st.nd, fun a ha => ?_⟩ ⟨q.ch.le.trans p.le, fun a u e => ?_, q.ch.fr, fun a u e n => ?_, fun a h => p.there a (q.ch.there a h), q.ch.same⟩ p.lk p.err (fun dx e => ⟨q.ch.free (p.fresh dx e), fun z => q.st.re.there z (p.fresh dx e)⟩)
        · cases e : Z' a with
          | none => rfl
          | some u =>
            rcases p.zn a u e with y | y | y
            · rw [q.st.zf a ha] at y; cases y
            · exact absurd y (out a ha)
            · exact absurd y (q.st.re.there ha)
        · rcases p.zn a u e with y | y | y
          · exact q.ch.zn a u y
          · rcases q.fd a y with z | z
            · exact .inr (.inr z)
            · exact .inr (.inl z.flat)
          · exact .inr (.inr (q.ch.free y))
        · refine p.frame a u (q.ch.frame a u e n) fun z => ?_
          rcases q.fd a z with y | y
          · rw [y] at e; cases e
          · exact n y
      · cases h3
    | _ => cases h3
variable {g n : Nat} {f : Addr} {fd : FuncData} {ps : List Str} {x : Str}
abbrev FnX (X : Cx) (B : Bk) (n g : Nat) (f : Addr) (fd : FuncData) (ps : List Str) : Prop := FnOk X.prog X.w X.K X.mg X.base (CX X.prog X.w) n f fd ps (spX B.K B.FA (B.Φ (g + RZ)))
theorem ss_sc {i : Nat} {y : Str} {pos' py : Pos} (hN : X.N.Nodup) (hi : X.N[i]? = some y) (hx : Loc X.env.scope y) (hf : X.fn y = true ∨ X.env.scope.names.lookup y = some .local)
    (F : FnOk X.prog X.w X.K X.mg X.base CX0 n f fd ps (spV B.K B.FA (B.Φ g))) (FX : FnX X B n g f fd ps) (tk : Takes X B.W) (hr : Room n X.A) (hg : Gl X x) (hm : X.mg x = some (.ref f)) (hk : PySem.W.keepIn X.K (.ref f) = true) (hb : Binds X.K fd ps [])
    (ha : PA X (e :: es) (SAs B as)) (hdb : (x == ("__debug__" : Str)) = false := by decide) (he : starEach (e :: es) X.env = (false, eval e X.env) :: starEach es X.env := by rfl) (hpl : (backTo pos (starEach es X.env)).any (·.1) = false := by rfl) (hs : swapsWith (.Call (.Name x p) (e :: es) [] pos) (some (.Name y py)) pos'.line X.env = pure false := by rfl) :
    PS X (.Assign [.Name y py] (.Call (.Name x p) (e :: es) [] pos) pos') (SS B (.sc i g as)) := by
  refine ((ss_set (pos := pos') (pos' := py) hN hi hx hf (sx_call F hr hg hm hk hb ha hdb he hpl) hs).or (ps_set (pos := pos') (pos' := py) hN hi hx (pe_callS FX hr hg hm hk hb (fun σ => passAt tk σ) ha hdb he hpl) hs hf)).imp fun D σ H h => ?_
  obtain ⟨Z, E, Fs, o, s, he', q⟩ := h
  simp only [ex] at he'
  cases hc : ev B.Φ (.call g as) E with
  | some r =>
    rw [hc] at he'
    simp only [Option.some.injEq] at he'
    subst he'
    refine .inl ⟨Z, E, Fs, .nx (r.2.set i (some r.1)), s, by simp only [ex, hc, Option.bind_eq_bind, Option.bind_some, esc, isPl, bindT]; rfl, q⟩
  | none =>
    rw [hc] at he'
    rw [Option.map_eq_some_iff] at he'
    obtain ⟨⟨y, E1⟩, h1, rfl⟩ := he'
    exact .inr (callX_se s h1 fun H0 H' Z' Fs' cls d s' c' lk v fr => q σ H0 H' Z' Fs' cls d s' (c'.mono fun j hj => List.mem_cons_of_mem _ hj) lk (fun _ _ => rfl) v fr)
theorem ss_rs {c : Nat} {m : Str} {j : Nat} {p2 pos' : Pos} (h0 : cn c = x) (hg : Gl X x) (hm : X.mg x = some (.ref (He.ga X.K x))) (hx : XC X.K c) (hf : He.Fa.ok X.K (.exc x) = true) (tk : Takes X B.W) (hc : X.calm = true := by rfl) (hK : X.K = B.K := by rfl) (hdb : (x == ("__debug__" : Str)) = false := by decide) :
    PS X (.Raise (some (.Call (.Name x p) [.Constant (.str m) j p2] [] pos)) none pos') (SS B (.rs c)) := by
  obtain ⟨f1, f2, f3, f4⟩ := He.exc_ok hf
  refine (ps_raise hc tk (pmk_own PySem.F.excBase_ValueError f1 hm f2 (raises_own f3 f4) hg hdb)).imp fun D σ H h => ?_
  obtain ⟨Z, E, Fs, o, s, he, q⟩ := h
  simp only [ex, Option.some.injEq] at he
  subst he
  refine q σ H H Z Fs _ _ s (Chg.refl _ _ _ _ _) Lk.refl (fun _ _ => rfl) ⟨?_, by rw [← hK]; exact hx, rfl⟩ (fun _ z => by cases z)
  rw [← hK, h0]
end
section
variable {P : Program} {w : World} {K : PySem.W.Frag} {mg : Str → Option Value} {base : Heap} {FA : Nat → Addr → Prop}
theorem def_spX {W : WX} {Φ : Phi} {d : Def} {vs : List V} {H : Hp} {Q : VK} {E : XK} {N : List Str} (hN : N.length = d.ns) (h : spX K FA (callX Φ d) vs H Q E) : SS ⟨K, FA, Φ, fun cls d _ H => E cls d H⟩ d.body { nx := fun _ H' => Q .non H', rt := Q } (L2.start N vs) H := by
  obtain ⟨Z, xs, Fds, c, w, os, sub, rl, nd, zf, hc, hb, k⟩ := h
  have hl := rl.length
  unfold callX at hc
  split at hc
  · rename_i hnp
    have e0 : L2.start N vs = vs.map some ++ List.replicate (d.ns - d.np) none := by
      unfold L2.start
      rw [hN, hl, hnp]
    have st : Stt K FA Z H (xs.map some ++ List.replicate (d.ns - d.np) none) (L2.start N vs) (Fds ++ List.replicate (d.ns - d.np) []) := by
      rw [e0]
      refine ⟨sub, RE_start _ rl, ?_, ?_⟩
      · simpa using nd
      · simpa using zf
    have fl : (Fds ++ List.replicate (d.ns - d.np) ([] : List Addr)).flatten = Fds.flatten := by simp
    cases ho : ex Φ d.body (xs.map some ++ List.replicate (d.ns - d.np) none) with
    | none => rw [ho] at hc; cases hc
    | some o =>
      rw [ho] at hc
      refine ⟨Z, _, _, o, st, ho, ?_⟩
      cases o with
      | nx E' => cases hc
      | rt x E' => cases hc
      | rs x E' =>
        simp only [Option.some.injEq, Prod.mk.injEq, errD, D.fn.injEq] at hc
        obtain ⟨⟨rfl, rfl⟩, rfl⟩ := hc
        intro σ' H0 H' Z' Fs' cls dd s' c' lk hs v fr
        refine k cls dd Z' H0 H' ⟨c'.le, fun a u e => ?_, s'.sub, fun a u e n => ?_, c'.there, lk, by rw [exn_err (Nat.lt_trans v.2.1.lt (by decide))]; exact v, fun dx e => (fr dx e).1⟩
        · have := c'.zn a u e
          rwa [fl] at this
        · exact c'.frame a u e fun y => n (fl ▸ y.flat)
  · cases hc
theorem def_okX {Φ : Phi} {f : Addr} {fd : FuncData} {d : Def} {N ps : List Str} {x qual : Str} {params : Arguments} {body : List Stmt} {scope : Scope} {k : Nat} (F : FunD K x qual params body scope [] [] f fd) (S : FnScope N ps scope) (hp : ps.length = d.np) (hN : N.length = d.ns)
    (hb : ∀ (cdv : Value) (A : Around) (outer : List Env) (s : Shared) (H : Hp) (E : XK), Room k (A.deeper (envOfC qual scope s.heap.objs.size f cdv)) → PSs (cxOf (CX P w) P w K mg base N qual scope f cdv A outer s H E) body (SS ⟨K, FA, Φ, fun cls d _ H => E cls d H⟩ d.body)) :
    FnOk P w K mg base (CX P w) (k + 1) f fd ps (spX K FA (callX Φ d)) := by
  refine F.ok S (fun vs H Q E h => ?_) fun cdv A outer s H vs Q E hr h => ⟨_, hb cdv A outer s H E hr, def_spX (W := fun _ _ _ _ => False) hN h⟩
  obtain ⟨Z, xs, Fds, r, w, os, _, rl, _, _, hc, _⟩ := h
  rw [rl.length, hp]
  unfold callX at hc
  split at hc
  · assumption
  · cases hc

def noRs : Ss → Bool
  | .seq a b => noRs a && noRs b
  | .ite _ a b => noRs a && noRs b
  | .for_ _ _ _ b => noRs b
  | .whl _ b => noRs b
  | .rs _ => false
  | .rsP _ _ => false
  | .xc _ _ => false
  | .sc _ _ _ => false
  | .ic _ _ _ _ => false
  | .try_ _ _ _ b => false
  | .tryU _ _ _ _ b => false
  | .apw _ _ b => noRs b
  | .forT _ _ b => noRs b
  | _ => true
theorem no_of {f : Addr} {fd : FuncData} {ps : List Str} {n : Nat} {F : List Val → Option (Val × List (Option Val))} (h : ∀ xs, F xs = none) : FnOk P w K mg base (CX P w) n f fd ps (spX K FA F) := by
  have no : ∀ vs H Q E, spX K FA F vs H Q E → False := fun vs H Q E z => by
    obtain ⟨Z, xs, Fds, r, w, os, _, _, _, _, hc, _⟩ := z
    rw [h] at hc
    cases hc
  exact ⟨fun vs H Q E z => (no vs H Q E z).elim, fun A outer s H args us vs Q E _ _ _ _ z => (no vs H Q E z).elim⟩
theorem tk_none {X : Cx} : Takes X (fun _ _ _ _ => False) := by
  rintro u s' ⟨_, _, _, _, _, _, _, _, _, _, _, _, _, _, _, _, h⟩
  exact h.elim
theorem callx_eq {tab : Nat → Option Def} {n g : Nat} {d : Def} (h1 : tab (g + RZ) = none) (h2 : tab g = some d) : call tab (n + 1) (g + RZ) = callX (call tab n) d := by
  funext xs
  simp only [call, h1, Nat.add_sub_cancel, h2]
  exact if_pos (Nat.le_add_left _ _)
end
end BS

set_option Elab.async false
set_option linter.all false
set_option maxRecDepth 100000
set_option maxHeartbeats 2000000

namespace BS
open PySem PySem.Spec PyProof.Rows L2
theorem paired_imp {α β : Type} {P Q : α → β → Prop} (h : ∀ a b, P a b → Q a b) : ∀ {xs : List α} {ys : List β}, PySem.Paired P xs ys → PySem.Paired Q xs ys
  | _, _, .nil => .nil
  | _, _, .cons x r => .cons (h _ _ x) (paired_imp h r)

theorem objOk_mono {P : Program} {w : World} {H H2 : Hp} {h : Heap} {a : Addr} (own : ∀ y t, H y = some (.own t) → H2 y = some (.own t)) (tup : ∀ y t, H y = some (.tup t) → H2 y = some (.tup t)) : ∀ (o : HO), ObjOk P w H h a o → ObjOk P w H2 h a o := by
  intro o
  induction o with
  | frz o u ih =>
    intro x
    simp only [ObjOk] at x ⊢
    exact ⟨x.1, ih x.2⟩
  | ins c y z =>
    intro x
    simp only [ObjOk] at x ⊢
    exact ⟨own _ _ x.1, x.2⟩
  | dT kv =>
    intro x
    simp only [ObjOk] at x ⊢
    obtain ⟨h1, h2, xs, h3, h4⟩ := x
    exact ⟨h1, h2, xs, paired_imp (fun _ _ ⟨a, b, c⟩ => ⟨a, tup _ _ b, c⟩) h3, h4⟩
  | _ => intro x; simpa only [ObjOk] using x

theorem inv_keep {X : Cx} {pins : List (Addr × Obj)} {σ : Sl} {H H2 : Hp} {s : Shared} {a : Addr} {oe : Obj} {cls : Value} {d : Option Addr} (S : L2.Inv X ((a, oe) :: pins) σ H s) (hex : X.ex = [])
    (hz : oe.cls = cls ∧ oe.dict = d) (hd : ∃ vs, oe.data = .fields vs) (fresh : X.s_0.heap.get? a = none) (np : ∀ p ∈ X.pn ++ pins, p.1 ≠ a)
    (hH : ∀ b, H2 b = H b ∨ ∃ o u, H b = some (.frz o u) ∧ H2 b = some u ∧ ∀ o' u', X.H_0 b ≠ some (.frz o' u')) :
    L2.Inv X pins σ (upd H2 a (.ext fun h => ∃ oe, h.get? a = some oe ∧ oe.cls = cls ∧ oe.dict = d ∧ ∃ vs, oe.data = .fields vs)) s := by
  obtain ⟨pa1, pa2, pa3, pa4, pa5⟩ := S.pin (a, oe) (List.mem_append_right _ List.mem_cons_self)
  have pa1 : s.heap.get? a = some oe := pa1
  have pa2 : H a = none := pa2
  have none_of : ∀ b, H b = none → H2 b = none := fun b h => by
    rcases hH b with z | ⟨o, u, z, _⟩
    · rw [z, h]
    · rw [h] at z; cases z
  have some_of : ∀ b u, H b = some u → (∀ o' u', u ≠ .frz o' u') → b ≠ a ∧ H2 b = some u := fun b u h n => by
    refine ⟨fun e => (by rw [e, pa2] at h; cases h), ?_⟩
    rcases hH b with z | ⟨o, u', z, _⟩
    · rw [z, h]
    · rw [h] at z; cases z; exact absurd rfl (n _ _)
  refine ⟨S.ok, S.os, S.bare, ?_, S.loc, S.cell, ?_, fun x c hc => ?_, fun p hp => ?_, ?_, S.len⟩
  · refine ⟨S.base.keep, S.base.slot, fun b o h1 h2 h3 => ?_, S.base.there, fun b xs h => ?_, fun b o u h => ?_, fun b ps h => ?_⟩
    · have e : b ≠ a := fun e => by rw [e, fresh] at h1; cases h1
      rw [upd_ne e]
      exact none_of b (S.base.free b o h1 h2 h3)
    · obtain ⟨e, z⟩ := some_of b _ (S.base.tups b xs h) (fun _ _ z => by cases z)
      rw [upd_ne e, z]
    · have z := S.base.frzs b o u h
      have e : b ≠ a := fun e => by rw [e, pa2] at z; cases z
      rw [upd_ne e]
      rcases hH b with y | ⟨_, _, _, _, y⟩
      · rw [y, z]
      · exact absurd h (y _ _)
    · obtain ⟨more, q⟩ := S.base.tbls b ps h
      obtain ⟨e, z⟩ := some_of b _ q (fun _ _ z => by cases z)
      exact ⟨more, by rw [upd_ne e, z]⟩
  · rw [upd_ne (Ne.symm pa3)]
    exact none_of _ S.free
  · have e : c ≠ a := fun e => by
      obtain ⟨v, o, h1, h2⟩ := S.cell x c hc
      rw [e, pa1] at h1
      cases h1
      exact pa5 v h2
    rw [upd_ne e]
    exact none_of _ (S.freeC x c hc)
  · obtain ⟨h1, h2, h3⟩ := S.pin p (by
      rcases List.mem_append.mp hp with z | z
      · exact List.mem_append_left _ z
      · exact List.mem_append_right _ (List.mem_cons_of_mem _ z))
    exact ⟨h1, by rw [upd_ne (np p hp)]; exact none_of _ h2, h3⟩
  · have own : ∀ y t, H y = some (.own t) → upd H2 a (HO.ext fun h => ∃ oe, h.get? a = some oe ∧ oe.cls = cls ∧ oe.dict = d ∧ ∃ vs, oe.data = .fields vs) y = some (.own t) := fun y t h => by
      obtain ⟨e, z⟩ := some_of y _ h (fun _ _ z => by cases z)
      rw [upd_ne e, z]
    have tup : ∀ y t, H y = some (.tup t) → upd H2 a (HO.ext fun h => ∃ oe, h.get? a = some oe ∧ oe.cls = cls ∧ oe.dict = d ∧ ∃ vs, oe.data = .fields vs) y = some (.tup t) := fun y t h => by
      obtain ⟨e, z⟩ := some_of y _ h (fun _ _ z => by cases z)
      rw [upd_ne e, z]
    intro b o hb
    by_cases e : b = a
    · rw [e, upd_same] at hb
      cases hb
      rw [e]
      simp only [ObjOk]
      exact ⟨⟨oe, pa1, hz.1, hz.2, hd⟩, ⟨oe, pa1⟩, fun h1 h2 ⟨o, q1, q2⟩ k => ⟨o, k o q1, q2⟩⟩
    · rw [upd_ne e] at hb
      rcases hH b with z | ⟨o', u, z1, z2, _⟩
      · rw [z] at hb
        exact objOk_mono own tup o (S.hok b o hb)
      · rw [z2] at hb
        cases hb
        have := S.hok b _ z1
        simp only [ObjOk] at this
        exact objOk_mono own tup _ this.2
theorem inv_unsuite {X : Cx} {pins : List (Addr × Obj)} {σ : Sl} {H : Hp} {s : Shared} {a : Addr} {q : Addr × Obj} (S : L2.Inv (X.suite a (q :: (X.pn ++ pins))) [] σ H s) (ok : X.Ok) : L2.Inv X (q :: pins) σ H s :=
  ⟨ok, S.os, S.bare, S.base, S.loc, S.cell, S.free, S.freeC, fun p hp => S.pin p (by
    rw [List.append_nil]
    rcases List.mem_append.mp hp with z | z
    · exact List.mem_cons_of_mem _ (List.mem_append_left _ z)
    · rcases List.mem_cons.mp z with rfl | z
      · exact List.mem_cons_self
      · exact List.mem_cons_of_mem _ (List.mem_append_right _ z)), S.hok, S.len⟩

def wKeep (K : PySem.W.Frag) (c : Value) (j i : Nat) (D : Ends) (H : Hp) : WX := fun cls d σ' H' => PySem.W.exmOne K cls c = some true ∧
  ∃ H2 : Hp, (∀ b, H2 b = H' b ∨ ∃ o u, H' b = some (.frz o u) ∧ H2 b = some u ∧ ∀ o' u', H b ≠ some (.frz o' u')) ∧
    ∀ a, H' a = none → D.nx (((σ'.set j (some (.ref a))).set i (some (.ref a))).set j none) (upd H2 a (.ext fun h => ∃ oe, h.get? a = some oe ∧ oe.cls = cls ∧ oe.dict = d ∧ ∃ vs, oe.data = .fields vs))
theorem ps_try_keep {X : Cx} {x n y : Str} {c : Value} {j i : Nat} {body : List Stmt} {np pos pos' p1 p2 p3 : Pos} {tb : WX → TS} (hs : X.stack = X.env :: X.outer) (hf : X.env.frame = some X.env.locals) (hex : X.ex = []) (hN : X.N.Nodup) (hj : X.N[j]? = some n) (hln : X.env.kindOf n = some .local) (hvn : Vis X.env.scope n) (hi : X.N[i]? = some y) (hy : Loc X.env.scope y) (hyf : X.fn y = true ∨ X.env.scope.names.lookup y = some .local) (hij : j ≠ i) (hjl : j < X.N.length)
    (hc : Names X x c) (hdn : (n == ("__debug__" : Str)) = false := by decide) (hcn : (n == ("__classdict__" : Str)) = false := by decide) (hsw : swapsWith (.Name n p2) (some (.Name y p1)) p3.line X.env = pure false := by rfl)
    (hb : ∀ (W : WX) (pn : List (Addr × Obj)) (xe : Value → Shared → Prop), Takes (X.tr pn xe) W → PassesOwn (model X.prog X.w) X.A X.env xe → PSs (X.tr pn xe) body (tb W)) :
    PS X (.Try body [.ExceptHandler (some (.Name x np)) (some n) [.Assign [.Name y p1] (.Name n p2) p3] pos'] [] [] pos) (fun D σ H => tb (wKeep X.K c j i D H) D σ H) := by
  refine ⟨fun pins s σ H D I h => ?_⟩
  have ok := I.ok
  have hfr : X.A.frames = some (X.env :: X.outer) := by rw [ok.frames, hs]
  have nofrz : ∀ b, (∀ o' u', H b ≠ some (.frz o' u')) → ∀ o' u', X.H_0 b ≠ some (.frz o' u') := fun b h o' u' z => h o' u' (I.base.frzs b o' u' z)
  let XE0 : Value → Shared → Prop := fun e s₁ => wpAny (model X.prog X.w) X.A (noteFrame e X.env) (fun _ s₂ => wpAny (model X.prog X.w) X.A (setFlight e none) (fun _ s₃ => wpAny (model X.prog X.w) X.A (handleBy e X.env [.ExceptHandler (some (.Name x np)) (some n) [.Assign [.Name y p1] (.Name n p2) p3] pos']) (SP X pins D) X.xe s₃) X.xe s₂) X.xe s₁
  have tk0 : Takes (X.tr (X.pn ++ pins) XE0) (wKeep X.K c j i D H) := by
    rintro u s' ⟨a, Bh, sI, pins', σ', H', cls, d, rfl, J', nb, up, sky, na, os, ag, hb1, H2, hH2, hnx⟩
    have J := Inv.ofTry J' ok
    have sky' : L2.Sky Bh (X.env :: X.outer) a (Zc cls d) X.env.locals s'.heap := by rw [← hs]; exact sky
    refine L2.Sky.land Zc.steady hfr hf sky' fun h3 fl3 up3 => ?_
    have J3 := Inv.landed (s' := { heap := h3, gens := s'.gens, drawn := s'.drawn, toks := s'.toks, os := s'.os }) J nb fl3.1 (Heap.UpToSlots.trans up up3) os ag
    obtain ⟨oe3, vs3, he3, hz3, hd3⟩ := PySem.HandSPX.FlyingZ.there fl3
    have nfr : a ∉ List.filterMap (fun x => x.frame) (X.env :: X.outer) := fun hm => by
      obtain ⟨_, o', e', hnf⟩ := Heap.FunFrames.mem fl3.2.2.1 hm
      rw [he3] at e'
      cases e'
      exact hnf _ hd3
    have nL : a ≠ X.env.locals := fun z => nfr (List.mem_filterMap.mpr ⟨X.env, List.mem_cons_self, by rw [hf, z]⟩)
    have nF : a ∉ X.fs := fun hm => by
      obtain ⟨e, he, q⟩ := List.mem_filterMap.mp hm
      exact nfr (List.mem_filterMap.mpr ⟨e, List.mem_cons_of_mem _ he, q⟩)
    have nS : a ∉ frs X.stack := by rw [hs]; exact nfr
    have fresh : X.s_0.heap.get? a = none := by
      cases e : X.s_0.heap.get? a with
      | none => rfl
      | some o =>
        obtain ⟨o', ho'⟩ := J.base.there a o e (by rw [hex]; exact List.not_mem_nil)
        have := nb a o' ho' nS
        rw [fl3.2.1] at this
        cases this
    have np' : ∀ p ∈ X.pn ++ pins, p.1 ≠ a := fun p hp e => by
      obtain ⟨h1, _⟩ := J'.pin p (List.mem_append_left _ hp)
      rw [e] at h1
      have := nb a p.2 h1 nS
      rw [fl3.2.1] at this
      cases this
    have S3 := Inv.suite J3 he3 hd3 na nL nF
    refine wpAny_handleBy_cons (codeAny_handlers_test ?_) (fun q => by cases q)
    have LT : PySem.W.Looks (model X.prog X.w) h3 (typeOf (.ref a)) cls := fun A Q E s k q => wpAny_typeOf_ref (k a oe3 he3) (by rw [hz3.1]; exact q)
    have LM := PySem.W.exm_one (Inv.kIn J3) LT hb1
    have test : ∀ {Q E}, Q c { heap := h3, gens := s'.gens, drawn := s'.drawn, toks := s'.toks, os := s'.os } → wpAny (model X.prog X.w) (X.A.mark (some (.ref a))) (eval (.Name x np) X.env) Q E { heap := h3, gens := s'.gens, drawn := s'.drawn, toks := s'.toks, os := s'.os } := fun {Q E} q => by
      obtain ⟨hg, hdbg, hm | ⟨hm, hv, hnn⟩⟩ := hc
      · exact L2.ld_glob S3 hg hm q hdbg
      · exact L2.ld_blt S3 hg hm hv q hnn hdbg
    refine test (PySem.W.Looks.here LM ?_)
    refine codeAny_handlers_suite_as (PySem.HandSPX.lands_againZ fl3 fun h4 fl4 up4 => ?_)
    have J4 := Inv.landed (s' := { heap := h4, gens := s'.gens, drawn := s'.drawn, toks := s'.toks, os := s'.os }) J nb fl4.1 (Heap.UpToSlots.trans (Heap.UpToSlots.trans up up3) up4) os ag
    obtain ⟨oe4, vs4, he4, hz4, hd4⟩ := PySem.HandSPX.FlyingZ.there fl4
    have S4 := Inv.suite J4 he4 hd4 na nL nF
    let Xs := X.suite a ((a, oe4) :: (X.pn ++ pins))
    refine L2.store_ok (X := Xs) (v := .ref a) S4 hN hj (.inl hln) rfl (fun s5 S5 => ?_) (.inr hln)
    have pe : PE Xs (.Name n p2) (tVar j) := pe_var (X := Xs) hj hvn hdn hcn
    have ps : PSs Xs [.Assign [.Name y p1] (.Name n p2) p3] (tAsg (tVar j) (gName i)) := pss_one (ps_set (X := Xs) (pos := p3) (pos' := p1) hN hi hy pe hsw hyf)
    refine wpAny_mono (ps.run [] s5 (σ'.set j (some (.ref a))) H' { nx := fun σ6 H6 => σ6 = (σ'.set j (some (.ref a))).set i (some (.ref a)) ∧ H6 = H', rt := fun _ _ => False } S5 ?_) ?_ (fun _ _ z => z.elim)
    · have hl : j < σ'.length := by rw [J'.len]; exact hjl
      exact ⟨.ref a, by rw [List.getElem?_set_self hl], rfl, rfl⟩
    · intro f s6 hsp
      cases f with
      | next =>
        obtain ⟨σ6, H6, S6, rfl, rfl⟩ := hsp
        refine L2.gone_ok (inv_unsuite S6 ok) hN hj hln fun s7 J7 => ?_
        exact ⟨_, _, inv_keep J7 hex hz4 ⟨vs4, hd4⟩ fresh np' fun b => by
          rcases hH2 b with z | ⟨o, u, z1, z2, z3⟩
          · exact .inl z
          · exact .inr ⟨o, u, z1, z2, nofrz b z3⟩, hnx a na⟩
      | brk =>
        obtain ⟨_, _, _, z⟩ := hsp
        exact z.elim
      | cont =>
        obtain ⟨_, _, _, z⟩ := hsp
        exact z.elim
      | ret u =>
        obtain ⟨_, _, _, _, _, z⟩ := hsp
        exact z.elim
  refine wpAny_Try_except (wpAny_mono ((hb (wKeep X.K c j i D H) (X.pn ++ pins) XE0 tk0 PassesOwn.looking).run [] s σ H D (Inv.toTry I XE0) h) (fun f s1 hsp => ?_) fun e s1 he => he)
  cases f with
  | next =>
    obtain ⟨σ', H', J', q⟩ := hsp
    exact wpAny_execs_nil ⟨σ', H', Inv.ofTry J' ok, q⟩
  | brk =>
    obtain ⟨σ', H', J', q⟩ := hsp
    exact ⟨σ', H', Inv.ofTry J' ok, q⟩
  | cont =>
    obtain ⟨σ', H', J', q⟩ := hsp
    exact ⟨σ', H', Inv.ofTry J' ok, q⟩
  | ret u =>
    obtain ⟨v, σ', H', J', r, q⟩ := hsp
    exact ⟨v, σ', H', Inv.ofTry J' ok, r, q⟩
end BS

set_option Elab.async false
set_option linter.all false
set_option maxRecDepth 100000
set_option maxHeartbeats 2000000
namespace BS
open PySem PySem.Spec PyProof.Rows L2
section
variable {X : Cx} {B : Bk}
theorem ss_try {x n y : Str} {c : Value} {cc j i : Nat} {b : Ss} {body : List Stmt} {np pos pos' p1 p2 p3 : Pos} (hs : X.stack = X.env :: X.outer) (hf : X.env.frame = some X.env.locals) (hex : X.ex = []) (hN : X.N.Nodup) (hj : X.N[j]? = some n) (hln : X.env.kindOf n = some .local) (hvn : Vis X.env.scope n) (hi : X.N[i]? = some y) (hy : Loc X.env.scope y) (hyf : X.fn y = true ∨ X.env.scope.names.lookup y = some .local) (hij : j ≠ i) (hjl : j < X.N.length) (hil : i < X.N.length)
    (hc : Names X x c) (hcls : ∀ k, XC X.K k → (cc = 0 ∨ cc = k) → PySem.W.exmOne X.K (.ref (He.ga X.K (cn k))) c = some true)
    (hb : ∀ (W : WX) (pn : List (Addr × Obj)) (xe : Value → Shared → Prop), Takes (X.tr pn xe) W → PassesOwn (model X.prog X.w) X.A X.env xe → PSs (X.tr pn xe) body (SS ⟨B.K, B.FA, B.Φ, W⟩ b))
    (hK : X.K = B.K := by rfl) (hdn : (n == ("__debug__" : Str)) = false := by decide) (hcn : (n == ("__classdict__" : Str)) = false := by decide) (hsw : swapsWith (.Name n p2) (some (.Name y p1)) p3.line X.env = pure false := by rfl) :
    PS X (.Try body [.ExceptHandler (some (.Name x np)) (some n) [.Assign [.Name y p1] (.Name n p2) p3] pos'] [] [] pos) (SS B (.try_ cc j i b)) := by
  refine (ps_try_keep hs hf hex hN hj hln hvn hi hy hyf hij hjl hc hdn hcn hsw hb).imp fun D σ H h => ?_
  obtain ⟨Z, E, Fs, o, s, he, q⟩ := h
  simp only [ex] at he
  have hw : ∀ k ∈ wrS b, k ∈ wrS (.try_ cc j i b) := fun k hk => by simp only [wrS, List.mem_cons]; exact .inr (.inr hk)
  have ha : ∀ k, k ∉ asg (.try_ cc j i b) → k ∉ asg b ∧ k ≠ i ∧ k ≠ j := fun k hk => by
    simp only [asg, List.mem_cons, not_or] at hk
    exact ⟨hk.2.2, hk.2.1, hk.1⟩
  cases eb : ex B.Φ b E with
  | none => rw [eb] at he; cases he
  | some o1 =>
    rw [eb] at he
    refine ⟨Z, E, Fs, o1, s, eb, ?_⟩
    cases o1 with
    | nx E1 =>
      simp only [Option.some.injEq] at he
      subst he
      exact fun σ' H' Z' Fs' s' c' g => q σ' H' Z' Fs' s' (c'.mono hw) fun k hk => g k (ha k hk).1
    | rt v E1 =>
      simp only [Option.some.injEq] at he
      subst he
      exact fun v σ' H' Z' Fd Fs' p g => q v σ' H' Z' Fd Fs' (p.mono hw) fun k hk => g k (ha k hk).1
    | rs x E1 =>
      simp only at he
      split at he
      · rename_i hcc
        simp only [Option.some.injEq] at he
        subst he
        intro σ' H0 H' Z' Fs' cls d s' c' lk g v fr
        obtain ⟨rfl, hx, hd⟩ := v
        have hx' : XC X.K x.1 := by rw [hK]; exact hx
        have hx16 : x.1 < 16 := Nat.lt_trans hx.lt (by decide)
        refine ⟨by rw [← hK]; exact hcls x.1 hx' hcc, ?_⟩
        classical
        let fz : Addr → Prop := fun b => ∃ o u, H b = some (.frz o u)
        let H2 : Hp := fun b => if fz b then H' b else H0 b
        refine ⟨H2, fun b => ?_, fun a na => ?_⟩
        · by_cases hfz : fz b
          · exact .inl (if_pos hfz)
          · rcases lk b with z | ⟨u, o, hu, _, z1, z2⟩
            · exact .inl ((if_neg hfz).trans z.symm)
            · exact .inr ⟨o, u, z2, (if_neg hfz).trans z1, fun o' u' z => hfz ⟨o', u', z⟩⟩
        · let P : Heap → Prop := fun h => ∃ oe, h.get? a = some oe ∧ oe.cls = .ref (He.ga B.K (cn x.1)) ∧ oe.dict = d ∧ ∃ vs, oe.data = .fields vs
          let Z2 : Hp := fun b => if b = a then some (.ext P) else if d = some b then H' b else Z' b
          -- what is so at a
          have n0 : H0 a = none := by
            rcases lk a with z | ⟨_, _, _, _, _, z⟩
            · rw [← z, na]
            · rw [na] at z; cases z
          have nH : H a = none := c'.free n0
          have nZ : Z' a = none := by
            cases e : Z' a with
            | none => rfl
            | some u =>
              rcases s'.sub a u e with z | ⟨_, o, z⟩
              · rw [n0] at z; cases z
              · rw [n0] at z; cases z
          have nF : a ∉ Fs'.flatten := fun z => s'.re.there z n0
          have own : ∀ b, b ∈ Fs'.flatten → H2 b = H0 b := fun b hb => by
            by_cases hfz : fz b
            · refine (if_pos hfz).trans ?_
              rcases lk b with z | ⟨u, _, _, z, _⟩
              · exact z
              · rw [s'.zf b hb] at z; cases z
            · exact if_neg hfz
          -- the error's dict
          have xdO : ∀ dx, d = some dx → ∃ k, H' dx = some (.xd [("place", placeV (k + 1))]) ∧ x.2 = k + 1 := fun dx e => by
            cases hn : x.2 with
            | zero => rw [hn] at hd; rw [show d = none from hd] at e; cases e
            | succ k =>
              rw [hn] at hd
              obtain ⟨dy, e2, z⟩ := hd
              rw [e2] at e
              cases e
              exact ⟨k, z, rfl⟩
          have xd0 : ∀ dx, d = some dx → H0 dx = H' dx := fun dx e => by
            obtain ⟨k, z, _⟩ := xdO dx e
            rcases lk dx with y | ⟨_, _, _, _, _, y⟩
            · exact y.symm
            · rw [z] at y; cases y
          have xdH2 : ∀ dx, d = some dx → H2 dx = H' dx := fun dx e => by
            by_cases hfz : fz dx
            · exact if_pos hfz
            · exact (if_neg hfz).trans (xd0 dx e)
          have xda : ∀ dx, d = some dx → dx ≠ a := fun dx e z => by
            obtain ⟨k, y, _⟩ := xdO dx e
            rw [z, na] at y; cases y
          have le : Le Z' Z2 := fun b u e => by
            show (if b = a then some (HO.ext P) else if d = some b then H' b else Z' b) = some u
            by_cases e1 : b = a
            · rw [e1, nZ] at e; cases e
            · rw [if_neg e1]
              by_cases e2 : d = some b
              · rw [if_pos e2]
                obtain ⟨k, y, _⟩ := xdO b e2
                rcases s'.sub b u e with z | ⟨_, o, z⟩
                · rw [← xd0 b e2, z]
                · rw [xd0 b e2, y] at z; cases z
              · rw [if_neg e2, e]
          have zn : ∀ b u, Z2 b = some u → Z' b = some u ∨ b = a ∨ d = some b := fun b u e => by
            by_cases e1 : b = a
            · exact .inr (.inl e1)
            · by_cases e2 : d = some b
              · exact .inr (.inr e2)
              · have : Z2 b = Z' b := by
                  show (if b = a then some (HO.ext P) else if d = some b then H' b else Z' b) = _
                  rw [if_neg e1, if_neg e2]
                exact .inl (by rw [← this, e])
          have sub : Sub Z2 (upd H2 a (.ext P)) := fun b u e => by
            by_cases e1 : b = a
            · rw [e1, upd_same]
              have : Z2 a = some (.ext P) := if_pos rfl
              rw [e1, this] at e
              exact .inl e
            · rw [upd_ne e1]
              rcases zn b u e with z | z | z
              · by_cases hfz : fz b
                · rw [show H2 b = H' b from if_pos hfz]
                  rcases lk b with y | ⟨u', o, hu, y1, y2, y3⟩
                  · rw [y]; exact s'.sub b u z
                  · rw [z] at y1
                    cases y1
                    exact .inr ⟨hu, o, y3⟩
                · rw [show H2 b = H0 b from if_neg hfz]
                  exact s'.sub b u z
              · exact absurd z e1
              · rw [xdH2 b z]
                have : Z2 b = H' b := by
                  show (if b = a then some (HO.ext P) else if d = some b then H' b else Z' b) = _
                  rw [if_neg e1, if_pos z]
                exact .inl (by rw [← this, e])
          have keep : ∀ b ∈ Fs'.flatten, upd H2 a (.ext P) b = H0 b := fun b hb => by
            rw [upd_ne (show b ≠ a from fun z => nF (by rw [← z]; exact hb))]
            exact own b hb
          have re := RE.keep le keep s'.re
          have err : ErrAt B.K Z2 (EB + (x.1 + 16 * x.2)) a := by
            refine ⟨Nat.le_add_right _ _, by rw [exn_err hx16]; exact hx, d, ?_, ?_⟩
            · rw [exn_err hx16]
              exact if_pos rfl
            · rw [exn_err hx16]
              cases hn : x.2 with
              | zero => rw [hn] at hd; exact hd
              | succ k =>
                rw [hn] at hd
                obtain ⟨dx, e, z⟩ := hd
                refine ⟨dx, e, ?_⟩
                show (if dx = a then some (HO.ext P) else if d = some dx then H' dx else Z' dx) = _
                rw [if_neg (xda dx e), if_pos e, z]
          have hlen : ((σ'.set j (some (V.ref a))).set i (some (.ref a))).set j none = (σ'.set i (some (.ref a))).set j none := by
            have e1 : (σ'.set j (some (V.ref a))).set i (some (V.ref a)) = (σ'.set i (some (V.ref a))).set j (some (V.ref a)) := List.set_comm _ _ hij
            rw [e1, List.set_set]
          rw [hlen]
          have re1 : RE B.K B.FA Z2 (upd H2 a (.ext P)) (E1.set i (some (errD x, .deep))) (σ'.set i (some (.ref a))) (Fs'.set i []) := re.set (x := some (errD x, .deep)) (show R B.K B.FA Z2 (upd H2 a (.ext P)) .deep (errD x) (.ref a) [] from ⟨⟨a, rfl, .inr err⟩, rfl⟩)
          have re2 : RE B.K B.FA Z2 (upd H2 a (.ext P)) ((E1.set i (some (errD x, .deep))).set j none) ((σ'.set i (some (.ref a))).set j none) ((Fs'.set i []).set j []) := re1.set (x := none) (v := none) (F := []) rfl
          have fl : ∀ b, b ∈ ((Fs'.set i []).set j []).flatten → b ∈ Fs'.flatten := fun b hb => mem_unset (mem_unset hb)
          refine q _ _ Z2 ((Fs'.set i []).set j []) ⟨sub, re2, ?_, fun b hb => ?_⟩ ⟨c'.le.trans le, fun b u e => ?_, fun k b hb => ?_, fun b u e nw => ?_, fun b hb => ?_, fun k hk => ?_⟩ fun k hk => ?_
          · have n1 : ([] ++ (Fs'.set i []).flatten).Nodup := nodup_unset (L := []) (by simpa using s'.nd)
            simpa using nodup_unset (L := []) n1
          · cases e : Z2 b with
            | none => rfl
            | some u =>
              rcases zn b u e with z | z | z
              · rw [s'.zf b (fl b hb)] at z; cases z
              · exact absurd (z ▸ fl b hb) nF
              · exact absurd (fl b hb) (fr b z).2
          · rcases zn b u e with z | z | z
            · exact c'.zn b u z
            · exact .inr (.inr (z ▸ nH))
            · exact .inr (.inr (fr b z).1)
          · have : b ∈ Fs'.getD k [] := by
              rcases getD_set hb with ⟨_, z⟩ | ⟨_, z⟩
              · cases z
              · rcases getD_set z with ⟨_, z⟩ | ⟨_, z⟩
                · cases z
                · exact z
            exact (c'.fr k b this).imp id (Or.imp id fun y => y.mono hw)
          · have e0 := c'.frame b u e fun z => nw (z.mono hw)
            have ne : b ≠ a := fun z => by rw [z, nH] at e; cases e
            rw [upd_ne ne]
            by_cases hfz : fz b
            · rw [show H2 b = H' b from if_pos hfz]
              rcases lk b with z | ⟨u', o, hu, _, z1, z2⟩
              · rw [z, e0]
              · obtain ⟨o', u'', z3⟩ := hfz
                rw [e] at z3
                cases z3
                rw [e0] at z1
                cases z1
                exact hu.elim
            · rw [show H2 b = H0 b from if_neg hfz, e0]
          · by_cases e1 : b = a
            · rw [e1, upd_same]; exact fun z => by cases z
            · rw [upd_ne e1]
              by_cases hfz : fz b
              · rw [show H2 b = H' b from if_pos hfz]
                rcases lk b with z | ⟨_, _, _, _, _, z⟩
                · rw [z]; exact c'.there b hb
                · rw [z]; exact fun z => by cases z
              · rw [show H2 b = H0 b from if_neg hfz]
                exact c'.there b hb
          · simp only [wrS, List.mem_cons, not_or] at hk
            obtain ⟨k1, k2, k3⟩ := hk
            obtain ⟨c1, c2⟩ := c'.same k k3
            exact ⟨by rw [List.getElem?_set_ne (Ne.symm k1), List.getElem?_set_ne (Ne.symm k2)]; exact c1, by rw [getD_set_ne (Ne.symm k1), getD_set_ne (Ne.symm k2)]; exact c2⟩
          · obtain ⟨k1, k2, k3⟩ := ha k hk
            rw [List.getElem?_set_ne (Ne.symm k3), List.getElem?_set_ne (Ne.symm k2)]
            exact g k k1
      · cases he
end
end BS

set_option Elab.async false
set_option linter.all false
set_option maxRecDepth 100000
set_option maxHeartbeats 2000000

namespace BS
open PySem PySem.Spec PyProof.Rows L2
def rIsX (K : PySem.W.Frag) : List V → Hp → VK → Prop := fun xs H Q => ∃ a D cv b vC, xs = [.ref a, vC] ∧ ClsV vC cv ∧ H a = some (.ext (ErrP D none a)) ∧ ExcC K D ∧ PySem.W.kitOne K (.ref D) cv = some b ∧ Q (.bl b) H
def rIsXT (K : PySem.W.Frag) : List V → Hp → VK → Prop := fun xs H Q => ∃ a D tp cs us b, xs = [.ref a, .ref tp] ∧ H tp = some (.tup cs) ∧ PySem.Paired ClsV cs us ∧ H a = some (.ext (ErrP D none a)) ∧ ExcC K D ∧ PySem.W.kitAny K (.ref D) us = some b ∧ Q (.bl b) H
theorem kitx_of {X : Cx} {pins : List (Addr × Obj)} {σ : Sl} {H : Hp} {s : Shared} {a D : Addr} (I : L2.Inv X pins σ H s) (he : H a = some (.ext (ErrP D none a))) (C : ExcC X.K D) : ∃ P, PySem.W.KitX X.K (.ref a) (.ref D) P ∧ P s.heap := by
  have h := I.hok a _ he
  simp only [ObjOk] at h
  obtain ⟨⟨oe, h1, h2, h3, vs, h4⟩, _⟩ := h
  refine ⟨_, PySem.W.handS_kitx_exc (ox := oe) C.hg C.hk C.hs C.hd C.ha C.hn C.ht C.hm, ⟨h1, h2, ?_, ?_⟩⟩
  · obtain ⟨oc, od, oda, osl⟩ := oe
    have h4 : oda = .fields vs := h4
    subst h4
    rfl
  · rw [h3]; trivial
theorem clsv_eq {c : V} {u v : Value} (h : ClsV c u) (r : RelV c v) : v = u := by
  cases h with
  | ty n => exact r
  | own C => exact r
theorem call_isX {X : Cx} : CallR X (.builtin "isinstance") (rIsX X.K) := by
  rintro pins s σ H xs us Q I r ⟨a, D, cv, b, vC, rfl, hc, he, C, e, q⟩
  match us, r with
  | [u1, u2], .cons rx (.cons rt .nil) =>
    have rx : u1 = .ref a := rx
    subst rx
    obtain rfl := clsv_eq hc rt
    obtain ⟨P, k, hp⟩ := kitx_of I he C
    exact PySem.W.kia_one k (Inv.kIn I) hp e (fun z => by cases z) fun tk => ⟨.bl b, H, Inv.kept I fun _ _ z => z, rfl, q⟩
theorem clsvs_eq : ∀ {cs : List V} {us vs : List Value}, PySem.Paired ClsV cs us → Vals cs vs → vs = us
  | [], _, _, .nil, .nil => rfl
  | _ :: _, _, _, .cons h hr, .cons r rr => by rw [clsv_eq h r, clsvs_eq hr rr]
theorem call_isXT {X : Cx} : CallR X (.builtin "isinstance") (rIsXT X.K) := by
  rintro pins s σ H xs us Q I r ⟨a, D, tp, cs, vs, b, rfl, ht, hc, he, C, e, q⟩
  match us, r with
  | [u1, u2], .cons rx (.cons rt .nil) =>
    have rx : u1 = .ref a := rx
    have rt : u2 = .ref tp := rt
    subst rx
    subst rt
    obtain ⟨P, k, hp⟩ := kitx_of I he C
    have h := I.hok tp _ ht
    simp only [ObjOk] at h
    obtain ⟨_, its, hv, o, h1, h2, n, h3⟩ := h
    obtain rfl := clsvs_eq hc hv
    obtain ⟨oc, od, oda, osl⟩ := o
    have h2 : oc = .type "tuple" := h2
    have h3 : oda = .seq its.toArray n := h3
    subst h2
    subst h3
    exact PySem.W.kia_tup k (Inv.kIn I) hp h1 e (fun z => by cases z) fun tk => ⟨.bl b, H, Inv.kept I fun _ _ z => z, rfl, q⟩
theorem kit_no {K : PySem.W.Frag} {C : Addr} (h : ((PySem.W.clsIn K C).isSome && PySem.W.typeIn K (.ref C) == some (.type "type")) = true) {T : String} (hT : (PySem.fastBuiltinMro T).map (fun l => l.contains (.ref C)) = some false) : PySem.W.kitOne K (.type T) (.ref C) = some false := by
  unfold PySem.W.kitOne
  rw [if_neg (by intro z; cases z)]
  show (if _ = true then PySem.W.subIn K (.type T) (.ref C) else none) = _
  rw [if_pos h]
  exact hT
theorem kit_ve : kitB "NoneType" "ValueError" = some false ∧ kitB "bool" "ValueError" = some false ∧ kitB "int" "ValueError" = some false ∧ kitB "str" "ValueError" = some false ∧ kitB "list" "ValueError" = some false ∧ kitB "tuple" "ValueError" = some false ∧ kitB "dict" "ValueError" = some false := by decide +kernel

def ClsC (K : PySem.W.Frag) (c : Nat) (v : V) (u : Value) : Prop := (v = .ref (He.ga K (cn c)) ∧ u = .ref (He.ga K (cn c)) ∧ XC K c ∧ clsThere K c) ∨ (c = 99 ∧ v = .ty "ValueError" ∧ u = .type "ValueError")
theorem ClsC.cls {K : PySem.W.Frag} {c : Nat} {v : V} {u : Value} (h : ClsC K c v u) : ClsV v u := by
  rcases h with ⟨rfl, rfl, _⟩ | ⟨_, rfl, rfl⟩
  · exact .own _
  · exact .ty _
theorem ClsC.no {K : PySem.W.Frag} {c : Nat} {v : V} {u : Value} (h : ClsC K c v u) {T : String} (hT : ∀ C : Addr, (PySem.fastBuiltinMro T).map (fun l => l.contains (.ref C)) = some false) (hv : kitB T "ValueError" = some false) : PySem.W.kitOne K (.type T) u = some false := by
  rcases h with ⟨_, rfl, x, _⟩ | ⟨_, _, rfl⟩
  · exact kit_no x.ok (hT _)
  · exact kit_ty hv
theorem ClsC.yes {K : PySem.W.Frag} {c k : Nat} {v : V} {u : Value} (h : ClsC K c v u) (x : XC K k) : PySem.W.kitOne K (.ref (He.ga K (cn k))) u = some (c == 0 || c == 99 || c == k) := by
  rcases h with ⟨_, rfl, y, t⟩ | ⟨rfl, _, rfl⟩
  · exact x.own c y.lt t
  · rw [x.ve]
    simp
def ClsCs (K : PySem.W.Frag) : List Nat → List V → List Value → Prop
  | [], [], [] => True
  | c :: cs, v :: vs, u :: us => ClsC K c v u ∧ ClsCs K cs vs us
  | _, _, _ => False
theorem kitAny_cons {K : PySem.W.Frag} {t c : Value} {r : List Value} {b : Bool} (h : PySem.W.kitOne K t c = some b) : PySem.W.kitAny K t (c :: r) = if b = true then some true else PySem.W.kitAny K t r := by
  rw [PySem.W.kitAny, h]
  cases b <;> rfl
theorem kitAny_nil {K : PySem.W.Frag} {t : Value} : PySem.W.kitAny K t [] = some false := by rw [PySem.W.kitAny]
theorem kitAny_no {K : PySem.W.Frag} {T : String} (hT : ∀ C : Addr, (PySem.fastBuiltinMro T).map (fun l => l.contains (.ref C)) = some false) (hv : kitB T "ValueError" = some false) : ∀ {cs : List Nat} {vs : List V} {us : List Value}, ClsCs K cs vs us → PySem.W.kitAny K (.type T) us = some false
  | [], [], [], _ => kitAny_nil
  | c :: cs, v :: vs, u :: us, h => by
    rw [kitAny_cons (h.1.no hT hv)]
    exact kitAny_no hT hv h.2
  | [], _ :: _, _, h => h.elim
  | _ :: _, [], _, h => h.elim
  | _ :: _, _ :: _, [], h => h.elim
  | [], [], _ :: _, h => h.elim
theorem kitAny_yes {K : PySem.W.Frag} {k : Nat} (x : XC K k) : ∀ {cs : List Nat} {vs : List V} {us : List Value}, ClsCs K cs vs us → PySem.W.kitAny K (.ref (He.ga K (cn k))) us = some (cs.any fun c => c == 0 || c == 99 || c == k)
  | [], [], [], _ => kitAny_nil
  | c :: cs, v :: vs, u :: us, h => by
    rw [kitAny_cons (h.1.yes x), List.any_cons]
    cases (c == 0 || c == 99 || c == k) with
    | true => rfl
    | false =>
      rw [Bool.false_or]
      exact kitAny_yes x h.2
  | [], _ :: _, _, h => h.elim
  | _ :: _, [], _, h => h.elim
  | _ :: _, _ :: _, [], h => h.elim
  | [], [], _ :: _, h => h.elim
theorem ClsCs.par {K : PySem.W.Frag} : ∀ {cs : List Nat} {vs : List V} {us : List Value}, ClsCs K cs vs us → PySem.Paired ClsV vs us
  | [], [], [], _ => .nil
  | c :: cs, v :: vs, u :: us, h => .cons h.1.cls h.2.par
  | [], _ :: _, _, h => h.elim
  | _ :: _, [], _, h => h.elim
  | _ :: _, _ :: _, [], h => h.elim
  | [], [], _ :: _, h => h.elim
section
variable {X : Cx} {B : Bk} {pos p : Pos} {ea : Expr} {a : Ex}

theorem ty_of {K : PySem.W.Frag} {FA : Nat → Addr → Prop} {Z H : Hp} {w : Ow} {d : D} {v : V} {F : List Addr} {cs : List Nat} {b : Bool} (hfa : ∀ g a, FA g a → ¬ EB ≤ g) (hs : Sub Z H) (r : R K FA Z H w d v F) (he : isCD cs d = some b) :
    (b = false ∧ ∃ T, TyX K H v (.type T) ∧ (∀ C : Addr, (PySem.fastBuiltinMro T).map (fun l => l.contains (.ref C)) = some false) ∧ kitB T "ValueError" = some false) ∨
    (∃ a k, v = .ref a ∧ H a = some (.ext (ErrP (He.ga K (cn k)) none a)) ∧ XC K k ∧ b = cs.any fun c => c == 0 || c == 99 || c == k) := by
  obtain ⟨k1, k2, k3, k4, k5, k6, k7⟩ := kit_ve
  cases d with
  | non => simp only [isCD, Option.some.injEq] at he; exact .inl ⟨he.symm, _, by rw [r.1]; exact .base .non, fun _ => rfl, k1⟩
  | bl x => simp only [isCD, Option.some.injEq] at he; exact .inl ⟨he.symm, _, by rw [r.1]; exact .base (.bl x), fun _ => rfl, k2⟩
  | int x => simp only [isCD, Option.some.injEq] at he; exact .inl ⟨he.symm, _, by rw [r.1]; exact .base (.int x), fun _ => rfl, k3⟩
  | str x => simp only [isCD, Option.some.injEq] at he; exact .inl ⟨he.symm, _, by rw [r.1.1]; exact .base (.str x), fun _ => rfl, k4⟩
  | lst x =>
    simp only [isCD, Option.some.injEq] at he
    obtain ⟨q, vs, G, e, hq, hr, ef⟩ := r
    exact .inl ⟨he.symm, _, by rw [e]; exact .base (.lst (hq.sub' hs)), fun _ => rfl, k5⟩
  | tup x =>
    simp only [isCD, Option.some.injEq] at he
    obtain ⟨q, vs, e, hq, hr⟩ := r
    exact .inl ⟨he.symm, _, by rw [e]; exact .base (.tup (tup_sub hs hq)), fun _ => rfl, k6⟩
  | dic tt x =>
    cases tt with
    | true => simp [isCD] at he
    | false =>
      simp only [isCD, Option.some.injEq] at he
      obtain ⟨q, G, e, hq, ef⟩ := r
      rcases hq with ⟨_, kv, c, hn, hr⟩ | ⟨z, _⟩
      · refine .inl ⟨he.symm, "dict", ?_, fun _ => rfl, k7⟩
        rw [e]
        rcases CAt.sub hs (o := .dK kv) trivial c with y | ⟨o, y⟩
        · exact .base (.dK y)
        · exact .fDict y
      · cases z
  | fn g =>
    simp only [isCD] at he
    split at he
    · rename_i hg
      simp only [Option.some.injEq] at he
      obtain ⟨⟨a, e, z | ⟨_, hx, d, h1, h2⟩⟩, _⟩ := r
      · exact absurd hg.1 (hfa _ _ z)
      · rw [hg.2] at h2
        have h2 : d = none := h2
        subst h2
        refine .inr ⟨a, (exnOf g).1, e, ?_, hx, he.symm⟩
        rcases hs a _ h1 with y | ⟨y, _⟩
        · exact y
        · exact y.elim
    · cases he
  | scr x => simp [isCD] at he
theorem ok_isC {c : Nat} {v : V} {u : Value} (hfa : ∀ g a, B.FA g a → ¬ EB ≤ g) (h : ClsC B.K c v u) : Ok1 B (app1 (.isC [c])) (fun x H Q => rIsi B.K [x, v] H Q ∨ rIsX B.K [x, v] H Q) := by
  intro d d' x w F Z H Q hs r he k
  simp only [app1, Option.map_eq_some_iff] at he
  obtain ⟨b, he, rfl⟩ := he
  rcases ty_of hfa hs r he with ⟨rfl, T, h1, h2, h3⟩ | ⟨a, n, rfl, h1, h2, rfl⟩
  · exact .inl ⟨x, v, _, u, false, rfl, h.cls, h1, h.no h2 h3, k _ fun w => ⟨rfl, rfl⟩⟩
  · refine .inr ⟨a, _, u, _, v, rfl, h.cls, h1, h2.exc, h.yes h2, ?_⟩
    have := k (.bl ([c].any fun c => c == 0 || c == 99 || c == n)) fun w => ⟨rfl, rfl⟩
    simpa using this
theorem sx_isC {c : Nat} {v : V} {u : Value} {x : Str} {p2 : Pos} (hfa : ∀ g a, B.FA g a → ¬ EB ≤ g) (h : ClsC B.K c v u) (hx : PE X (.Name x p2) (tC v)) (hg : Gl X "isinstance") (hm : X.mg "isinstance" = none) (ha : PE X ea (SE B a)) (hK : X.K = B.K := by rfl)
    (he : starEach [ea, .Name x p2] X.env = (false, eval ea X.env) :: starEach [.Name x p2] X.env := by rfl) (he2 : starEach [.Name x p2] X.env = [(false, eval (.Name x p2) X.env)] := by rfl) (hpl : (backTo pos (starEach [.Name x p2] X.env)).any (·.1) = false := by rfl) :
    PE X (.Call (.Name "isinstance" p) [ea, .Name x p2] [] pos) (SE B (.op1 (.isC [c]) a)) :=
  (pe_callB (show CallR X (.builtin "isinstance") (fun xs H Q => rIsi B.K xs H Q ∨ rIsX B.K xs H Q) from hK ▸ call_isi.or call_isX) hg hm boot_isinstance' (pa_cons ha (pa_cons hx pa_nil he2) he) (by decide) (by decide) he hpl).imp fun _ _ _ h' => se1 (ok_isC hfa h) h'
theorem pe_own {x : Str} (c : Nat) {p2 : Pos} (h0 : cn c = x) (hg : Gl X x) (hm : X.mg x = some (.ref (He.ga X.K x))) (hd : (x == ("__debug__" : Str)) = false := by decide) : PE X (.Name x p2) (tC (.ref (He.ga X.K (cn c)))) := by
  rw [h0]
  exact pe_glob hg hm rfl hd
theorem ClsCs.nil {K : PySem.W.Frag} : ClsCs K [] [] [] := trivial
theorem ClsCs.cons {K : PySem.W.Frag} {c : Nat} {v : V} {u : Value} {cs : List Nat} {vs : List V} {us : List Value} (h : ClsC K c v u) (r : ClsCs K cs vs us) : ClsCs K (c :: cs) (v :: vs) (u :: us) := ⟨h, r⟩
theorem sp_inG {x : Str} {p2 : Pos} {xs : List Str} {t : Addr} (hg : Gl X x) (hm : X.mg x = some (.ref t)) (ht : ∀ H, SqT B.K H t (xs.map V.str)) (ha : PE X ea (SE B a)) (hK : X.K = B.K := by rfl) (hd : (x == ("__debug__" : Str)) = false := by decide) :
    PT X (.Compare ea [.In] [.Name x p2] pos) (ST B (.inG false a xs)) := by
  refine (pt_cmpR (hK ▸ op_in_seq) ha (pe_glob (v := .ref t) hg hm rfl hd) (by rfl)).imp fun σ H Q h => ?_
  obtain ⟨Z, E, Fs, c, w, E', st, he, k⟩ := h
  exact inG_in ht (inG_se ⟨Z, E, Fs, _, E', st, he, fun v H' Z' Fd Fs' p => ⟨c, p.val.1, k H' Z' Fs' p.st p.ch⟩⟩)
theorem sp_ninG {x : Str} {p2 : Pos} {xs : List Str} {t : Addr} (hg : Gl X x) (hm : X.mg x = some (.ref t)) (ht : ∀ H, SqT B.K H t (xs.map V.str)) (ha : PE X ea (SE B a)) (hK : X.K = B.K := by rfl) (hd : (x == ("__debug__" : Str)) = false := by decide) :
    PT X (.Compare ea [.NotIn] [.Name x p2] pos) (ST B (.inG true a xs)) := by
  refine (pt_cmpR (hK ▸ op_notIn_seq) ha (pe_glob (v := .ref t) hg hm rfl hd) (by rfl)).imp fun σ H Q h => ?_
  obtain ⟨Z, E, Fs, c, w, E', st, he, k⟩ := h
  exact inG_in ht (inG_se ⟨Z, E, Fs, _, E', st, he, fun v H' Z' Fd Fs' p => ⟨c, p.val.1, k H' Z' Fs' p.st p.ch⟩⟩)
theorem pe_ve {p2 : Pos} (hg : Gl X "ValueError") (hm : X.mg "ValueError" = none) : PE X (.Name "ValueError" p2) (tC (.ty "ValueError")) := pe_bltn (v := .ty "ValueError") hg hm (by decide +kernel) rfl (by decide) (by decide)

theorem Pe.grow {K : PySem.W.Frag} {FA : Nat → Addr → Prop} {w : List Nat} {pr : Option (Nat × Bool)} {Z H Z1 H1 : Hp} {E E1 : En} {Fs Fs1 : List (List Addr)} {σ : Sl} {x : Val} {v : V} {Fd : List Addr} {t : Addr} {o : HO} {d : D} {u : V} (p : Pe K FA w pr Z H E Fs σ x E1 v Z1 H1 Fd Fs1) (ht : H1 t = none) (hr : ∀ w H, R K FA Z1 H w d u []) : Pe K FA w none Z H E Fs σ (d, .deep) E1 u Z1 (upd H1 t o) [] Fs1 := by
  have zt : Z1 t = none := by
    cases e : Z1 t with
    | none => rfl
    | some y =>
      rcases p.st.sub t y e with z | ⟨_, q, z⟩
      · rw [ht] at z; cases z
      · rw [ht] at z; cases z
  have ne : ∀ b, H1 b ≠ none → b ≠ t := fun b h z => h (z ▸ ht)
  refine ⟨⟨fun b y e => ?_, RE.keep (Le.refl _) (fun b hb => upd_ne (ne b (p.st.re.there hb))) p.st.re, p.st.nd, p.st.zf⟩, ⟨p.ch.le, p.ch.zn, p.ch.fr, fun b y e n => ?_, fun b h => ?_, p.ch.same⟩, hr _ _, fun _ => ⟨by simpa using p.st.nd, fun _ h => (by cases h), fun _ h => (by cases h)⟩, fun _ _ h => (by cases h)⟩
  · have : b ≠ t := fun z => by rw [z, zt] at e; cases e
    rw [upd_ne this]
    exact p.st.sub b y e
  · have h1 := p.ch.frame b y e n
    rw [upd_ne (ne b (by rw [h1]; exact fun z => by cases z))]
    exact h1
  · have h1 := p.ch.there b h
    rw [upd_ne (ne b h1)]
    exact h1
theorem sx_isCT {cs : List Nat} {vs : List V} {us : List Value} {e1 : Expr} {es : List Expr} {kk : Nat} {p2 : Pos} (hfa : ∀ g a, B.FA g a → ¬ EB ≤ g) (h2 : ClsCs B.K cs vs us) (hn : vs.length ≤ 100)
    (hx : PE X (.Tuple (e1 :: es) kk p2) (fun σ H Q => vs.length ≤ sizeLine ∧ ∀ t, H t = none → Q (.ref t) (upd H t (.tup vs)))) (hg : Gl X "isinstance") (hm : X.mg "isinstance" = none) (ha : PE X ea (SE B a)) (hK : X.K = B.K := by rfl)
    (he : starEach [ea, .Tuple (e1 :: es) kk p2] X.env = (false, eval ea X.env) :: starEach [.Tuple (e1 :: es) kk p2] X.env := by rfl) (he2 : starEach [.Tuple (e1 :: es) kk p2] X.env = [(false, eval (.Tuple (e1 :: es) kk p2) X.env)] := by rfl) (hpl : (backTo pos (starEach [.Tuple (e1 :: es) kk p2] X.env)).any (·.1) = false := by rfl) :
    PE X (.Call (.Name "isinstance" p) [ea, .Tuple (e1 :: es) kk p2] [] pos) (SE B (.op1 (.isC cs) a)) := by
  refine (pe_callB (show CallR X (.builtin "isinstance") (fun xs H Q => rIsiT B.K xs H Q ∨ rIsXT B.K xs H Q) from hK ▸ call_isiT.or call_isXT) hg hm boot_isinstance' (pa_cons ha (pa_cons hx pa_nil he2) he) (by decide) (by decide) he hpl).imp fun σ H Q h => ?_
  obtain ⟨Z, E, Fs, x, E', st, hev, k⟩ := h
  simp only [ev, Option.bind_eq_bind, Option.bind_eq_some_iff, Prod.exists] at hev
  obtain ⟨y, w, E1, hy, d, hd, e⟩ := hev
  simp only [Option.some.injEq, Prod.mk.injEq] at e
  obtain ⟨rfl, rfl⟩ := e
  simp only [app1, Option.map_eq_some_iff] at hd
  obtain ⟨b, hb, rfl⟩ := hd
  refine ⟨Z, E, Fs, (y, w), E1, st, hy, fun v H1 Z1 Fd Fs1 p => ⟨Nat.le_trans hn (by decide), fun t ht => ?_⟩⟩
  have par := h2.par
  have fin : ∀ b', b' = b → Q (.bl b') (upd H1 t (.tup vs)) := fun b' e => by
    subst e
    exact k _ _ _ _ _ (p.grow ht fun w H => ⟨rfl, rfl⟩)
  rcases ty_of hfa p.st.sub p.val hb with ⟨rfl, T, q1, q2, q3⟩ | ⟨a', n, rfl, q1, q2, rfl⟩
  · have q1' : TyX B.K (upd H1 t (.tup vs)) v (.type T) := by
      cases q1 with
      | base q =>
        cases q with
        | non => exact .base .non
        | bl x => exact .base (.bl x)
        | int x => exact .base (.int x)
        | str x => exact .base (.str x)
        | flt x => exact .base (.flt x)
        | lst q => exact .base (.lst (by rw [upd_ne fun z => by rw [z, ht] at q; cases q]; exact q))
        | frz q => exact .base (.frz (by rw [upd_ne fun z => by rw [z, ht] at q; cases q]; exact q))
        | tup q => exact .base (.tup (by rw [upd_ne fun z => by rw [z, ht] at q; cases q]; exact q))
        | dK q => exact .base (.dK (by rw [upd_ne fun z => by rw [z, ht] at q; cases q]; exact q))
        | dT q => exact .base (.dT (by rw [upd_ne fun z => by rw [z, ht] at q; cases q]; exact q))
      | byt b => exact .byt b
      | set q => exact .set (by rw [upd_ne fun z => by rw [z, ht] at q; cases q]; exact q)
      | kList q r => exact .kList q r
      | kTuple q r => exact .kTuple q r
      | kDict q r => exact .kDict q r
      | fTuple q => exact .fTuple (by rw [upd_ne fun z => by rw [z, ht] at q; cases q]; exact q)
      | fDict q => exact .fDict (by rw [upd_ne fun z => by rw [z, ht] at q; cases q]; exact q)
    exact .inl ⟨v, t, vs, _, us, false, rfl, upd_same, par, q1', kitAny_no q2 q3 h2, fin _ rfl⟩
  · have ne : a' ≠ t := fun z => by rw [z, ht] at q1; cases q1
    exact .inr ⟨a', _, t, vs, us, _, rfl, upd_same, par, by rw [upd_ne ne]; exact q1, q2.exc, kitAny_yes q2 h2, fin _ rfl⟩
end
end BS

set_option Elab.async false
set_option linter.all false
set_option maxRecDepth 100000
set_option maxHeartbeats 2000000

namespace BS
open PySem PySem.Spec PyProof.Rows L2
def excB (K : PySem.W.Frag) (D : Addr) : Bool :=
  decide (PySem.W.findIn K (.ref D) "__getattribute__" = some (some (.builtin "BaseException.__getattribute__"))) &&
  (decide (PySem.W.findIn K (.ref D) "__getattr__" = some none) &&
  (decide (PySem.W.subIn K (.ref D) (.type "BaseException") = some true) &&
  (PySem.W.hasDictIn K D &&
  (decide (PySem.W.findIn K (.ref D) "__class__" = some (some (.builtin "object.__class__"))) &&
  (decide (PySem.W.specialIn K (.builtin "object.__class__") "__get__" = some (some (.builtin "getset_descriptor.__get__"))) &&
  (decide (PySem.W.takesIn K (.builtin "object.__class__") = some true) &&
  decide (PySem.W.mroIn K D (.type "object") = some true)))))))
theorem excB_ok {K : PySem.W.Frag} {D : Addr} (h : excB K D = true) : ExcC K D := by
  unfold excB at h
  simp only [Bool.and_eq_true, decide_eq_true_eq] at h
  obtain ⟨h1, h2, h3, h4, h5, h6, h7, h8⟩ := h
  exact ⟨h1, h2, h3, h4, h5, h6, h7, h8⟩
def xcB (K : PySem.W.Frag) (c : Nat) : Bool :=
  decide (c < 11) && (excB K (He.ga K (cn c)) &&
  (((List.range 11).all fun C => !He.Fa.ok K (.glo (cn C)) || decide (PySem.W.kitOne K (.ref (He.ga K (cn c))) (.ref (He.ga K (cn C))) = some (C == 0 || C == 99 || C == c))) &&
  (decide (PySem.W.kitOne K (.ref (He.ga K (cn c))) (.type "ValueError") = some true) &&
  (((PySem.W.clsIn K (He.ga K (cn c))).isSome && PySem.W.typeIn K (.ref (He.ga K (cn c))) == some (.type "type")) &&
  (decide (PySem.W.exmOne K (.ref (He.ga K (cn c))) (.ref (He.ga K (cn 0))) = some true) &&
  decide (PySem.W.exmOne K (.ref (He.ga K (cn c))) (.ref (He.ga K (cn c))) = some true))))))
theorem xcB_ok {K : PySem.W.Frag} {c : Nat} (h : xcB K c = true) : XC K c := by
  unfold xcB at h
  obtain ⟨h1, h⟩ := Bool.and_eq_true_iff.mp h
  obtain ⟨h2, h⟩ := Bool.and_eq_true_iff.mp h
  obtain ⟨h3, h⟩ := Bool.and_eq_true_iff.mp h
  obtain ⟨h4, h⟩ := Bool.and_eq_true_iff.mp h
  obtain ⟨h5, h⟩ := Bool.and_eq_true_iff.mp h
  obtain ⟨h6, h7⟩ := Bool.and_eq_true_iff.mp h
  refine ⟨of_decide_eq_true h1, excB_ok h2, fun C hC ht => ?_, of_decide_eq_true h4, h5, of_decide_eq_true h6, of_decide_eq_true h7⟩
  have := List.all_eq_true.mp h3 C (List.mem_range.mpr hC)
  rw [Bool.or_eq_true] at this
  rcases this with z | z
  · rw [show He.Fa.ok K (.glo (cn C)) = true from ht] at z
    cases z
  · exact of_decide_eq_true z
def isS : Value → Str → Bool
  | .str z _, s => decide (z = s)
  | _, _ => false
theorem isS_ok {v : Value} {s : Str} (h : isS v s = true) : RelV (.str s) v := by
  cases v with
  | str z t => exact ⟨t, by rw [show z = s from of_decide_eq_true h]⟩
  | _ => simp [isS] at h

def tupB (K : PySem.W.Frag) (x : Str) (xs : List Str) : Bool := match K.lookup (He.ga K x) with
  | some ⟨.type "tuple", _, .seq its _, _⟩ => its.size == xs.length && ((its.toList.zip xs).all fun p => isS p.1 p.2)
  | _ => false
def exB (K : PySem.W.Frag) (cl : List (Nat × Bool)) (tps : List (Str × List Str)) : Bool := (cl.all fun c => xcB K c.1 && (He.Fa.ok K (.glo (cn c.1)) && (!c.2 || He.Fa.ok K (.exc (cn c.1))))) && tps.all fun t => He.Fa.ok K (.glo t.1) && tupB K t.1 t.2
def hookX (n : Nat) (fa : List He.Fa) (fn : List He.DefD) (cl : List (Nat × Bool)) (tps : List (Str × List Str)) : PySem.W.Hook where
  α := He.AlD × Bool
  obs := fun s => (He.obsDG n fa fn s.heap.get?, exB (He.frG s.heap.get? (He.asD s.heap.get? n)) cl tps)
  val := fun _ => (He.valD fn, true)
  says := fun _ h => ∃ K : PySem.W.Frag, K.In h ∧ He.SaysD fa fn K ∧ exB K cl tps = true
  of := fun _ s e => ⟨He.frG s.heap.get? (He.asD s.heap.get? n), He.frG_in, (Prod.mk.inj e).1, (Prod.mk.inj e).2⟩
  keeps := fun _ _ _ ⟨K, a, b⟩ k => ⟨K, PySem.W.Frag.In.keeps a k, b⟩
theorem tupB_ok {K : PySem.W.Frag} {x : Str} {xs : List Str} (h : tupB K x xs = true) (hn : xs.length ≤ 1000) : ∀ H, SqT K H (He.ga K x) (xs.map V.str) := by
  intro H
  unfold tupB at h
  split at h
  · rename_i dd its n sl hl
    rw [Bool.and_eq_true] at h
    obtain ⟨h1, h2⟩ := h
    have h1 : its.size = xs.length := by simpa using h1
    refine .inr ⟨_, its, n, hl, rfl, rfl, by rw [h1]; exact Nat.le_trans hn (by decide), ?_⟩
    have key : ∀ {l : List Value} {ys : List Str}, l.length = ys.length → ((l.zip ys).all fun p => isS p.1 p.2) = true → Vals (ys.map V.str) l := fun {l ys} => by
      induction ys generalizing l with
      | nil => intro a _; cases l with
        | nil => exact .nil
        | cons _ _ => simp at a
      | cons y ys ih => intro a b; cases l with
        | nil => simp at a
        | cons v l =>
          rw [List.zip_cons_cons, List.all_cons, Bool.and_eq_true] at b
          exact .cons (isS_ok b.1) (ih (by simpa using a) b.2)
    exact key (by simpa using h1) h2
  · cases h

structure TxX (K : PySem.W.Frag) (mg : Str → Option Value) (cl : List (Nat × Bool)) (tps : List (Str × List Str)) : Prop where
  xc : ∀ {c : Nat} (p : Bool), (c, p) ∈ cl → XC K c
  gl : ∀ {c : Nat} (p : Bool), (c, p) ∈ cl → clsThere K c
  at_ : ∀ {c : Nat} (p : Bool), (c, p) ∈ cl → mg (cn c) = some (.ref (He.ga K (cn c)))
  exc : ∀ {c : Nat}, (c, true) ∈ cl → He.Fa.ok K (.exc (cn c)) = true
  tup : ∀ {x : Str} {xs : List Str} (i : Nat), tps[i]? = some (x, xs) → mg x = some (.ref (He.ga K x)) ∧ (xs.length ≤ 1000 → ∀ H, SqT K H (He.ga K x) (xs.map V.str))
theorem TxX.of {K : PySem.W.Frag} {mg : Str → Option Value} {h : Heap} {cl : List (Nat × Bool)} {tps : List (Str × List Str)} (X : K.In h) (G : h.Ns mainGlobals mg) (e : exB K cl tps = true) : TxX K mg cl tps := by
  unfold exB at e
  rw [Bool.and_eq_true] at e
  have a1 : ∀ c ∈ cl, xcB K c.1 = true ∧ He.Fa.ok K (.glo (cn c.1)) = true ∧ (c.2 = true → He.Fa.ok K (.exc (cn c.1)) = true) := fun c hc => by
    have := List.all_eq_true.mp e.1 c hc
    rw [Bool.and_eq_true, Bool.and_eq_true, Bool.or_eq_true] at this
    refine ⟨this.1, this.2.1, fun z => ?_⟩
    rcases this.2.2 with y | y
    · rw [z] at y; cases y
    · exact y
  refine ⟨fun p h => xcB_ok (a1 _ h).1, fun p h => (a1 _ h).2.1, fun p h => He.glo_ok X G (a1 _ h).2.1, fun h => (a1 _ h).2.2 rfl, fun i h => ?_⟩
  have := List.all_eq_true.mp e.2 _ (List.mem_of_getElem? h)
  rw [Bool.and_eq_true] at this
  exact ⟨He.glo_ok X G this.1, fun hn => tupB_ok this.2 hn⟩
theorem TxX.own {K : PySem.W.Frag} {mg : Str → Option Value} {cl : List (Nat × Bool)} {tps : List (Str × List Str)} (T : TxX K mg cl tps) {c : Nat} (p : Bool) (h : (c, p) ∈ cl) : ClsC K c (.ref (He.ga K (cn c))) (.ref (He.ga K (cn c))) := .inl ⟨rfl, rfl, T.xc p h, T.gl p h⟩
theorem clsVE {K : PySem.W.Frag} : ClsC K 99 (.ty "ValueError") (.type "ValueError") := .inr ⟨rfl, rfl, rfl⟩
theorem fa_of {K : PySem.W.Frag} {ts : Tss} (h : ts.length ≤ 1000) : ∀ g a, FAof K ts g a → ¬ EB ≤ g := by
  rintro g a ⟨x, st, ps, e, _⟩ z
  have := (List.getElem?_eq_some_iff.mp e).1
  have h3 : (1000 : Nat) < EB := by decide
  omega
abbrev OksX (P : Program) (w : World) (K : PySem.W.Frag) (mg : Str → Option Value) (base : Heap) (tab : Nat → Option Def) (ts : Tss) (mr : List Nat) (fdv : Nat → FuncData) (n : Nat) : Prop :=
  ∀ {x : Str} {st : Stmt} {ps : List Str} (i : Nat), ts[i]? = some (x, st, ps) → i ∈ mr → FnOk P w K mg base (CX P w) n (He.ga K x) (fdv i) ps (spX K (FAof K ts) (call tab n (i + RZ)))
theorem oksx0 {P : Program} {w : World} {K : PySem.W.Frag} {mg : Str → Option Value} {base : Heap} {tab : Nat → Option Def} {ts : Tss} {mr : List Nat} {fdv : Nat → FuncData} : OksX P w K mg base tab ts mr fdv 0 := fun _ _ _ => no_of fun _ => rfl
end BS

set_option Elab.async false
set_option linter.all false
set_option maxRecDepth 100000
set_option maxHeartbeats 2000000

namespace BS
open PySem PySem.Spec PyProof.Rows L2

def newA : List Addr → Nat → List Addr → List Addr × Nat
  | [], m, acc => (acc, m)
  | a :: r, m, acc => match Nat.beq (Nat.land (Nat.shiftRight m a) 1) 1 with
    | true => newA r m acc
    | false => HandSHeadRun.frNat (Nat.lor m (Nat.shiftLeft 1 a)) fun m' => newA r m' (a :: acc)
def refsAt (g : Addr → Option Obj) (a : Addr) : List Addr := match g a with
  | some o => He.refsD o
  | none => []

def levA (g : Addr → Option Obj) : Nat → List Addr → Nat → List Addr → List Addr
  | 0, fr, _, all => all ++ fr
  | n + 1, fr, m, all => match newA (fr.flatMap (refsAt g)) m [] with
    | (fr', m') => levA g n fr' m' (all ++ fr)
def asW (g : Addr → Option Obj) (n : Nat) : List Addr := levA g n [mainGlobals] (Nat.shiftLeft 1 mainGlobals) []

def frcK {β : Type} : PySem.W.Frag → (PySem.W.Frag → β) → β
  | [], k => k []
  | (a, o) :: r, k => HandSHeadRun.frNat a fun a => frcK r fun r' => k ((a, o) :: r')
theorem frcK_eq {β : Type} : ∀ (l : PySem.W.Frag) (k : PySem.W.Frag → β), frcK l k = k l
  | [], _ => rfl
  | (a, o) :: r, k => by
    rw [frcK, HandSHeadRun.frNat_eq, frcK_eq r]
def lookX (fa : List He.Fa) (fn : List He.DefD) (cl : List (Nat × Bool)) (tps : List (Str × List Str)) (K : PySem.W.Frag) : He.AlD × Bool := (He.obsD fa fn K, exB K cl tps)
def hookW (n : Nat) (fa : List He.Fa) (fn : List He.DefD) (cl : List (Nat × Bool)) (tps : List (Str × List Str)) : PySem.W.Hook where
  α := He.AlD × Bool
  obs := fun s => lookX fa fn cl tps (He.frG s.heap.get? (asW s.heap.get? n))
  val := fun _ => (He.valD fn, true)
  says := fun _ h => ∃ K : PySem.W.Frag, K.In h ∧ He.SaysD fa fn K ∧ exB K cl tps = true
  of := fun _ s e => ⟨He.frG s.heap.get? (asW s.heap.get? n), He.frG_in, (Prod.mk.inj e).1, (Prod.mk.inj e).2⟩
  keeps := fun _ _ _ ⟨K, a, b⟩ k => ⟨K, PySem.W.Frag.In.keeps a k, b⟩
def obW (n : Nat) (fa : List He.Fa) (fn : List He.DefD) (cl : List (Nat × Bool)) (tps : List (Str × List Str)) (g : Addr → Option Obj) : He.AlD × Bool := frcK (He.frG g (asW g n)) (lookX fa fn cl tps)
theorem obW_eq {n : Nat} {fa : List He.Fa} {fn : List He.DefD} {cl : List (Nat × Bool)} {tps : List (Str × List Str)} {g : Addr → Option Obj} {s : Shared} (h : ∀ a, g a = s.heap.get? a) : obW n fa fn cl tps g = (hookW n fa fn cl tps).obs s := by
  have e := funext h
  rw [e]
  exact frcK_eq _ _
theorem run_split {α β γ δ : Type} {x : Option α} {f : α → β} {g : α → γ} {h : α → δ} {a : β} {b : γ} {c : δ} (h1 : x.map (fun s => (f s, g s)) = some (a, b)) (h2 : x.map h = some c) : x.map (fun s => (f s, g s, h s)) = some (a, b, c) := by
  cases x with
  | none => cases h1
  | some s =>
    simp only [Option.map_some, Option.some.injEq, Prod.mk.injEq] at h1 h2 ⊢
    exact ⟨h1.1, h1.2, h2⟩
end BS
namespace BS
open PySem PySem.W PySem.Calls PyProof.Rows HandSHeadRun

def RunA (r : OpenRow) (q : Program) (M : Nat) (loose : List PySem.Str) (w : World) : Prop :=
  ∀ os : OsState, (endF (stepQ (denQ tabQ) r.prog w) M r.prog w os).map (fun s => (looksF r.prog (boot_heap w.params) s.abs, seenQ q loose (importedModules r.prog.main.body) (fun s => xlAt q [] s && recOk r.toRowW.records s) s.abs)) = some (true, openGood q loose)
def RunB (r : OpenRow) (H : Hook) (ob : SharedT → H.α) (M : Nat) (w : World) : Prop :=
  ∀ os : OsState, (endF (stepQ (denQ tabQ) r.prog w) M r.prog w os).map ob = some (H.val w)
theorem run_AB {r : OpenRow} {q : Program} {H : Hook} {ob : SharedT → H.α} {M : Nat} {loose : List PySem.Str} {w : World} (a : RunA r q M loose w) (b : RunB r H ob M w) : RunEq r q H ob M loose w := fun os => run_split (a os) (b os)
end BS

set_option Elab.async false
set_option linter.all false
set_option maxRecDepth 100000
set_option maxHeartbeats 0
namespace L_besidesay_k13_texts_that_are_none
open PySem PySem.Spec PyProof.Rows L2 BS
def top (i : Nat) : Stmt := PySem.Challenge.pw_besidesay_k13_texts_that_are_none.main.body.getD i (.Pass ⟨0, 0, 0, 0⟩)
abbrev s0 : Stmt := top 20
abbrev s1 : Stmt := top 21
abbrev s2 : Stmt := top 22
abbrev s3 : Stmt := top 23
abbrev s4 : Stmt := top 24
abbrev s5 : Stmt := top 13
abbrev s6 : Stmt := top 25
abbrev s7 : Stmt := top 26
abbrev s8 : Stmt := top 14
abbrev s9 : Stmt := top 16
abbrev s10 : Stmt := top 15
abbrev s11 : Stmt := top 17
abbrev s12 : Stmt := top 18
abbrev s13 : Stmt := top 29
abbrev s14 : Stmt := top 27
abbrev s15 : Stmt := top 28
abbrev s16 : Stmt := top 30
def ts : Tss := ("_law_cell_at", s0, ["_law_script", "_law_k"]) :: ("_law_pool", s1, ["_law_script", "_law_k"]) :: ("_law_take", s2, ["_law_pool_here", "_law_many"]) :: ("_law_plain", s3, ["_law_pool_here"]) :: ("_law_saying", s4, ["_law_pool_here", "_law_depth"]) :: ("show_saying", s5, ["saying"]) :: ("_law_sign", s6, ["_law_pool_here"]) :: ("_law_other", s7, ["_law_text", "_law_pool_here"]) :: ("split_place", s8, ["text"]) :: ("joined_in", s9, ["text", "depth"]) :: ("many_in", s10, ["word"]) :: ("saying_in", s11, ["text", "depth"]) :: ("read_saying", s12, ["text"]) :: ("_law_told", s13, ["_law_text"]) :: ("_law_number", s14, ["_law_word"]) :: ("_law_read", s15, ["_law_text", "_law_depth"]) :: ("law", s16, ["_law_script"]) :: []
def fr : List Str := "len" :: "str" :: "int" :: "enumerate" :: "isinstance" :: "ValueError" :: "range" :: "max" :: "min" :: []
def ci : List (Str × Int) := ("LONGEST_NUMBER", 4) :: ("MOST_MANY", 4095) :: ("DEEPEST", 3) :: []
def cs : List (Str × Str) := [("FIGURES", "0123456789")]
def cl : List (Nat × Bool) := [(0, true), (1, false), (2, true), (3, true), (4, true)]
def tps : List (Str × List Str) := ("JOINED", ["both", "either"]) :: ("PLAIN", ["tree", "near", "bare", "sides", "odd", "pairing", "cheapest", "round", "ball"]) :: []
def mrs : List Nat := [12]
theorem FA0 {K : PySem.W.Frag} : ∀ g a, FAof K ts g a → ¬ EB ≤ g := fa_of (by decide)
/-! ### the head -/
abbrev Rw : PySem.W.OpenRow := PySem.W.OpenLaw.row PySem.Challenge.rw_besidesay_k13_texts_that_are_none
abbrev hk : PySem.W.Hook := hookW 3 (fas ts fr ci cs) (dfs ts) cl tps
def ob (s : PySem.W.SharedT) : He.AlD × Bool := obW 3 (fas ts fr ci cs) (dfs ts) cl tps (HandSHeadRun.getT s)
theorem ob_eq (s : PySem.W.SharedT) : ob s = hk.obs s.abs := obW_eq (HandSHeadRun.getT_eq s)
def lo0 : List PySem.Str := ["BesideError", "NoWeb", "NoSaying", "NoText", "NoMarks", "PLAIN", "JOINED", "DEEPEST", "MOST_MANY", "FIGURES", "LONGEST_NUMBER", "show_saying", "split_place", "many_in", "joined_in", "saying_in", "read_saying", "_law_cell_at", "_law_pool", "_law_take", "_law_plain", "_law_saying", "_law_sign", "_law_other", "_law_number", "_law_read", "_law_told"]
def loose : List PySem.Str := lo0
theorem runA (w : World) : BS.RunA Rw (PySem.W.view Rw.prog [30]) 5040 loose w := by
  intro os
  kernel_rfl
theorem runB (w : World) : BS.RunB Rw hk ob 5040 w := by
  intro os
  kernel_rfl
theorem run (w : World) : HandSHeadRun.RunEq Rw (PySem.W.view Rw.prog [30]) hk ob 5040 loose w := BS.run_AB (runA w) (runB w)
end L_besidesay_k13_texts_that_are_none
set_option Elab.async false
set_option linter.all false
set_option maxRecDepth 100000
set_option maxHeartbeats 2000000

namespace BS
open PySem PySem.Spec PyProof.Rows L2
theorem strLn_iff {s : Str} (h : strLn s = true) : s.length ≤ line ∧ PyData.strOk s = true := by
  unfold strLn at h
  simpa [Bool.and_eq_true] using h
section
variable {X : Cx} {B : Bk} {pos apos : Pos} {ea eb : Expr} {a b : Ex}
theorem ok_starts {z : Str} : Ok1 B (app1 (.starts z)) (fun v H Q => (∃ s, v = .str s) ∧ ∃ s t, v = .str s ∧ [V.str z] = [.str t] ∧ Q (.bl (Txt.startswith s t)) H) := by
  intro d d' v w F Z H Q hs r he k
  cases d with
  | str s =>
    simp only [app1, Option.some.injEq] at he
    subst he
    have e : v = .str s := r.1.1
    exact ⟨⟨s, e⟩, s, z, e, rfl, k _ fun w => ⟨rfl, rfl⟩⟩
  | _ => simp [app1] at he
theorem sx_starts {z : Str} {j : Nat} {cp : Pos} (ha : PE X ea (SE B a)) (hs : starEach [.Constant (.str z) j cp] X.env = [(false, eval (.Constant (.str z) j cp) X.env)] := by rfl) (hbase : attributeBase ea "startswith" X.env (eval ea X.env) = eval ea X.env := by rfl) (hline : (apos.endLine == pos.line) = true := by rfl) :
    PE X (.Call (.Attribute ea "startswith" apos) [.Constant (.str z) j cp] [] pos) (SE B (.op1 (.starts z) a)) :=
  (pe_m1 F.slot_str_startswith F.type_str_startswith mt_startswith ha pe_str hs hbase hline).imp fun _ _ _ h => se1 ok_starts h
theorem sx_part {z : Str} {j : Nat} {cp : Pos} (ha : PE X ea (SE B a)) (hs : starEach [.Constant (.str z) j cp] X.env = [(false, eval (.Constant (.str z) j cp) X.env)] := by rfl) (hbase : attributeBase ea "partition" X.env (eval ea X.env) = eval ea X.env := by rfl) (hline : (apos.endLine == pos.line) = true := by rfl) :
    PE X (.Call (.Attribute ea "partition" apos) [.Constant (.str z) j cp] [] pos) (SE B (.opP (.part z) a)) := by
  refine (pe_partition ha pe_str hs hbase hline).imp fun σ H Q h => ?_
  obtain ⟨Z, E, Fs, x, E', st, he, k⟩ := h
  simp only [ev, Option.bind_eq_bind, Option.bind_eq_some_iff, Prod.exists] at he
  obtain ⟨yd, yw, E1, h1, d, h2, e⟩ := he
  simp only [Option.some.injEq, Prod.mk.injEq] at e
  obtain ⟨rfl, rfl⟩ := e
  refine ⟨Z, E, Fs, (yd, yw), E1, st, h1, fun v H1 Z1 Fd Fs1 pp => ?_⟩
  cases yd with
  | str s =>
    simp only [prtnD, Option.ite_none_right_eq_some, Option.some.injEq] at h2
    obtain ⟨⟨hz, hl, k1, k2, k3⟩, rfl⟩ := h2
    have e : v = .str s := pp.val.1.1
    refine ⟨⟨s, e⟩, s, z, e, rfl, hz, hl, fun t ht => ?_⟩
    have zt := pp.st.sub.none ht
    refine k _ _ (upd Z1 t (.tup _)) [] Fs1 ⟨pp.st.laidZ ht, ((pp.ch.laidZ pp.st.sub ht)).mono fun i hi => ?_, ⟨t, _, rfl, upd_same, ?_⟩, fun _ => ⟨by simpa using pp.st.nd, fun _ m => (by cases m), fun _ m => (by cases m)⟩, fun _ _ z => by simp [pr] at z⟩
    · rw [wr]
      exact List.mem_append_right _ hi
    · exact ⟨_, [_, _], [], [], rfl, ⟨⟨rfl, strLn_iff k1⟩, rfl⟩, ⟨_, [_], [], [], rfl, ⟨⟨rfl, strLn_iff k2⟩, rfl⟩, ⟨_, [], [], [], rfl, ⟨⟨rfl, strLn_iff k3⟩, rfl⟩, ⟨rfl, rfl⟩, rfl⟩, rfl⟩, rfl⟩
  | _ => simp [prtnD] at h2
end
end BS

set_option Elab.async false
set_option linter.all false
set_option maxRecDepth 100000
set_option maxHeartbeats 2000000

namespace BS
open PySem PySem.Spec PyProof.Rows L2
section
variable {X : Cx} {B : Bk} {pos apos : Pos}
end
end BS

set_option Elab.async false
set_option linter.all false
set_option maxRecDepth 100000
set_option maxHeartbeats 2000000

namespace BS
open PySem PySem.Spec PyProof.Rows L2
section
variable {X : Cx} {B : Bk} {pos : Pos}
end
end BS

set_option Elab.async false
set_option linter.all false
set_option maxRecDepth 100000
set_option maxHeartbeats 2000000

namespace BS
open PySem PySem.Spec PyProof.Rows L2
section
variable {prog : Program} {w : World} {κ : Type} [DecidableEq κ] {knd : HeapKind prog w κ} {A : Around} {E : Value → Shared → Prop} {s : Shared}
end
abbrev TK := List (List Key × Addr × V)
def mergeT (kvs : List (List Key × V)) (more : TK) : List (List Key × V) := more.foldl (fun acc kv => putK acc kv.1 kv.2.2) kvs
def tDispT (trs : List (TE × TE)) : TE := fun σ H Q => ∀ p, H p = none → tPairs trs σ (upd H p (.dT [])) fun ps H2 => H2 p = some (.dT []) ∧ ∃ kvs : TK, ps = kvs.map (fun kv => (V.ref kv.2.1, kv.2.2)) ∧ (∀ x ∈ kvs, H2 x.2.1 = some (.tup (x.1.map kV))) ∧ kvs.length ≤ 15 ∧ Q (.ref p) (upd H2 p (.dT (mergeT [] kvs)))
end BS
namespace BS
open PySem PySem.Spec PyProof.Rows L2
section
variable {K : PySem.W.Frag} {FA : Nat → Addr → Prop} {Z Z' H H' : Hp}
end
section
variable {X : Cx} {B : Bk} {pos : Pos}
end
end BS

set_option Elab.async false
set_option linter.all false
set_option maxRecDepth 100000
set_option maxHeartbeats 2000000

namespace BS
open PySem PySem.Spec PyProof.Rows L2
section
variable {X : Cx} {B : Bk} {pos p p2 q2 apos : Pos} {ea eb ec : Expr} {a b c : Ex}
def tLSetT (K : PySem.W.Frag) (ta : TE) : TE := fun σ H Q => ta σ H fun x H1 => ∃ (l : Addr) (ns : List Int), x = .ref l ∧ SqT K H1 l (ns.map V.int) ∧ ns.length ≤ 4000 ∧ Q (.int ((dedup ns).length : Nat)) H1
end
end BS

set_option Elab.async false
set_option linter.all false
set_option maxRecDepth 100000
set_option maxHeartbeats 2000000

namespace BS
open PySem PySem.Spec PyProof.Rows L2

def IteS (z : Str) : It :=
  ⟨fun i _ => i < z.cps.size, fun i H v H' => ∃ T c, v = .ref T ∧ H T = none ∧ H' = upd H T (.tup [.int (i : Nat), .str ⟨#[c]⟩]) ∧ z.cps[i]? = some c, fun i _ => i = z.cps.size⟩
theorem turn_enumS {P : Program} {w : World} {K : PySem.W.Frag} {elts : List Expr} {kk : Nat} {tpos : Pos} (z : Str) (t : Tok) (e it : Addr) :
    Turn P w K (.Tuple elts kk tpos) (IteS z) [e, it] e (fun i h => (∃ old, IsEnum h e it ((i : Nat) : Int) old) ∧ h.IsStrIter it (strIterType z) z t i ∧ e ≠ it) where
  mem := by simp
  obj := fun i h st b hb => by
    obtain ⟨⟨old, he⟩, ⟨o, ho, hc, hd⟩, _⟩ := st
    have e' : b = e ∨ b = it := by simpa using hb
    rcases e' with z | z
    · rw [z]; exact ⟨_, he, fun v q => nomatch q⟩
    · rw [z]; exact ⟨o, ho, fun v q => by rw [hd] at q; cases q⟩
  keep := fun i h h' st k => let ⟨⟨old, he⟩, ⟨o, q, r⟩, hne⟩ := st; ⟨⟨old, k e (by simp) _ he⟩, ⟨o, k it (by simp) o q, r⟩, hne⟩
  item := by
    intro X hP hw hK hc i pins s σ H E I hf st hg
    subst hP hw hK
    obtain ⟨⟨old, he⟩, hit, hne⟩ := st
    have hel : e < s.heap.objs.size := Heap.lt_size he
    have hil : it < s.heap.objs.size := by obtain ⟨_, q, _⟩ := hit; exact Heap.lt_size q
    have hh : X.A.in1.handled = none := by simp [I.ok.hd hc]
    refine wpAny_pyNext_enum_itemD (Draws.text hh it z t) he hit hg hne (by simpa using hne) fun u h' tk hP ho hit' hT hsz hk => ?_
    obtain ⟨c, u', hcz, rfl⟩ := hP
    refine ⟨_, rfl, wpAny_letOwnedTupleGo_enum (s := { s with heap := h', toks := tk + 1 }) ho fun h'' he' sb => ?_⟩
    have hT2 : h''.get? s.heap.objs.size = some { cls := .type "tuple", data := .seq #[.int i tk, .str ⟨#[c]⟩ u'] } := (sb.2 _ (Nat.ne_of_gt hel)).trans hT
    have new : ObjOk X.prog X.w (upd H s.heap.objs.size (.tup [.int (i : Nat), .str ⟨#[c]⟩])) h'' s.heap.objs.size (.tup [.int (i : Nat), .str ⟨#[c]⟩]) :=
      ⟨by show 2 ≤ sizeLine; decide, [.int i tk, .str ⟨#[c]⟩ u'], .cons ⟨_, rfl⟩ (.cons ⟨_, rfl⟩ .nil), ⟨_, hT2, rfl, _, rfl⟩⟩
    have I1 : Inv X pins σ (upd H s.heap.objs.size (.tup [.int (i : Nat), .str ⟨#[c]⟩])) { s with heap := h'', toks := tk + 1 } :=
      I.turnedNew (ch := [e, it]) (fun b ob hb q => (sb.2 b (fun z => hb (by simp [z]))).trans (hk b ob (fun z => hb (by simp [z])) (fun z => hb (by simp [z])) q)) hf (Nat.le_refl _) new
    refine ⟨.ref s.heap.objs.size, _, I1, rfl, ⟨_, c, rfl, I.hok.fresh (Nat.le_refl _), rfl, hcz⟩, ⟨⟨.str ⟨#[c]⟩ u', ?_⟩, (let ⟨o, q, r⟩ := hit'; ⟨o, (sb.2 it (Ne.symm hne)).trans q, r⟩), hne⟩, fun b hb => ?_⟩
    · have e1 : ((i + 1 : Nat) : Int) = (i : Int) + 1 := by omega
      rw [e1]; exact he'
    · have hb' : b < s.heap.objs.size := by
        have e' : b = e ∨ b = it := by simpa using hb
        rcases e' with z | z
        · rw [z]; exact hel
        · rw [z]; exact hil
      rw [upd_ne (Nat.ne_of_lt hb')]
      exact (hf b hb).1
  done := by
    intro X hP hw hK hc i pins s σ H E I hf st hg
    subst hP hw hK
    have hg : i = z.cps.size := hg
    subst hg
    obtain ⟨⟨old, he⟩, hit, hne⟩ := st
    obtain ⟨f0, f1, f2, f3, f4, f5⟩ := hf it (by simp)
    have hh : X.A.in1.handled = none := by simp [I.ok.hd hc]
    exact wpAny_pyNext_enum_endD (Draws.text hh it z t) he hit fun h' eb => ⟨rfl, I.turned (t' := s.toks) (fun b o hb q => eb b o hb q) f0 f1 f3 f4 f5⟩
  self := fun A i s Q E st h => let ⟨⟨_, he⟩, _⟩ := st; wpAny_pyIter_enum he h
def iEnumS (ta : TA) : TI := fun σ H R => ta σ H fun vs H1 => ∃ z, vs = [.str z] ∧ R (IteS z) H1
theorem pi_enumS {X : Cx} {e : Expr} {ta : TA} {p pos tpos : Pos} {elts : List Expr} {kk : Nat} (hg : Gl X "enumerate") (hm : X.mg "enumerate" = none) (ha : PA X [e] ta) (hs : starEach [e] X.env = [(false, eval e X.env)] := by rfl) :
    PI X (.Tuple elts kk tpos) (.Call (.Name "enumerate" p) [e] [] pos) (iEnumS ta) := by
  refine ⟨fun pins s σ H R I h => ?_⟩
  refine Call_ (ld_blt I hg hm boot_enumerate (PyProof.Rows.callWith_type1 (thn (ha.run pos pins s σ H _ I h) fun us s1 ⟨vs, H1, I1, r1, q1⟩ => ?_) hs rfl))
  obtain ⟨z, ex, q⟩ := q1
  subst ex
  cases r1 with
  | cons r rr =>
    cases rr
    obtain ⟨t, rfl⟩ := r
    refine call_enumerate_str fun h' he hit hsz hk => wpAny_pyIter_enum he ?_
    have I2 : Inv X pins σ H1 { s1 with heap := h' } := I1.kept (t' := s1.toks) hk
    refine ⟨s1.heap.objs.size + 1, [s1.heap.objs.size + 1, s1.heap.objs.size], _, _, H1, rfl, I2, turn_enumS z t (s1.heap.objs.size + 1) s1.heap.objs.size, ⟨⟨.none, he⟩, hit, Nat.succ_ne_self _⟩, fun b hb => ?_, q⟩
    have e' : b = s1.heap.objs.size + 1 ∨ b = s1.heap.objs.size := by simpa using hb
    have hle : s1.heap.objs.size ≤ b := by
      rcases e' with z | z
      · rw [z]; exact Nat.le_add_right _ _
      · rw [z]; exact Nat.le_refl _
    exact I1.fpOk hle (I1.hok.fresh hle)
end BS

set_option Elab.async false
set_option linter.all false
set_option maxRecDepth 100000
set_option maxHeartbeats 2000000

namespace BS
open PySem PySem.Spec PyProof.Rows L2
def rDUpd : V → List V → Hp → VK → Prop := fun x vs H Q => ∃ (a o : Addr) (kvs more : List (Key × V)), x = .ref a ∧ vs = [.ref o] ∧ H a = some (.dK kvs) ∧ H o = some (.dK more) ∧ a ≠ o ∧ kvs.length + more.length ≤ 16777216 ∧ Q .non (upd H a (.dK (mergeK kvs more)))
section
variable {K : PySem.W.Frag} {FA : Nat → Addr → Prop} {Z H : Hp}
end
section
variable {X : Cx} {B : Bk} {pos apos : Pos} {p : Pos} {e1 : Expr} {as : List Ex} {i : Nat} {x : Str}
end
end BS

set_option Elab.async false
set_option linter.all false
set_option maxRecDepth 100000
set_option maxHeartbeats 2000000

namespace BS
open PySem PySem.Spec PyProof.Rows L2
section
variable {X : Cx} {B : Bk} {pos p apos posE : Pos} {i j : Nat} {x y : Str} {s : Ss}

variable {st2 : Stmt} {rest : List Stmt} {b : Ss} {px : Pos}
end
end BS

set_option Elab.async false
set_option linter.all false
set_option maxRecDepth 100000
set_option maxHeartbeats 2000000

namespace BS
open PySem PySem.Spec PyProof.Rows L2
section
variable {X : Cx} {B : Bk} {pos p apos posE : Pos} {i : Nat} {x : Str}
end
end BS

set_option Elab.async false
set_option linter.all false
set_option maxRecDepth 100000
set_option maxHeartbeats 4000000

namespace SetL
open PySem PySem.Spec PyProof.Rows L2

abbrev emptySet (w : World) : Obj := { cls := .type "set", dict := none, data := .set #[] 0 (.fresh 0 0 (!w.params.followText "set-order")) }
section
variable {P : Program} {w : World} {A : Around} {E : Value → Shared → Prop} {s : Shared}
set_option maxHeartbeats 8000000 in
end
end SetL
namespace BS
open PySem PySem.Spec PyProof.Rows L2 SetL
section
variable {X : Cx} {B : Bk} {pos p p2 q2 : Pos} {ea : Expr} {a : Ex}
def tSSet (K : PySem.W.Frag) (ta : TE) : TE := fun σ H Q => ta σ H fun x H1 => ∃ (l : Addr) (ns : List Int), x = .ref l ∧ SqL K H1 l (ns.map V.int) ∧ ns.length < 64 ∧ ∀ (p : Addr), H1 p = none → Q (.ref p) (upd H1 p (.lst ((sortI (dedup ns)).map V.int)))
end
end BS

set_option Elab.async false
set_option linter.all false
set_option maxRecDepth 100000
set_option maxHeartbeats 2000000

namespace BS
open PySem PySem.Spec PyProof.Rows L2
section
variable {X : Cx} {B : Bk} {pos pos' : Pos} {ee ek ep : Expr} {e k pe : Ex}
end
end BS

set_option Elab.async false
set_option linter.all false
set_option maxRecDepth 100000
set_option maxHeartbeats 2000000

namespace BS
open PySem PySem.Spec PyProof.Rows L2
section
variable {X : Cx} {B : Bk} {pos pos' : Pos} {i : Nat} {x : Str}
end
end BS

set_option Elab.async false
set_option linter.all false
set_option maxRecDepth 100000
set_option maxHeartbeats 2000000

namespace BS
open PySem PySem.Spec PyProof.Rows L2
section
variable {X : Cx} {B : Bk} {pos : Pos} {i : Nat} {x : Str} {is : List Nat} {b : Ss}
end
end BS

set_option Elab.async false
set_option linter.all false
set_option maxRecDepth 100000
set_option maxHeartbeats 2000000

namespace BS
open PySem PySem.Spec PyProof.Rows L2
section
variable {X : Cx} {B : Bk} {a b : Ex}
end
end BS

set_option Elab.async false
set_option linter.all false
set_option maxRecDepth 100000
set_option maxHeartbeats 2000000

namespace BS
open PySem PySem.Spec PyProof.Rows L2
section
variable {K : PySem.W.Frag} {FA : Nat → Addr → Prop} {Z Z' H H' : Hp}
def ntup : Option HO → Prop
  | some (.tup _) => False
  | _ => True

def tups (H : Hp) : Hp := fun a => match H a with
  | some (.tup vs) => some (.tup vs)
  | _ => none
def iTup : D → Bool
  | .tup ds => ds.all isIntD
  | _ => false
end
section
variable {B : Bk}
variable {X : Cx} {pos : Pos} {tgE : Expr}
end
end BS

set_option Elab.async false
set_option linter.all false
set_option maxRecDepth 100000
set_option maxHeartbeats 2000000

namespace BS
open PySem PySem.Spec PyProof.Rows L2
section
variable {X : Cx} {B : Bk} {pos p : Pos} {ea eb ec : Expr} {a b c : Ex}

def SLK (B : Bk) (a b c : Ex) : TE := fun σ H Q => ∃ Z E Fs ys yw E1 l E2 u E' lo hi x, Stt B.K B.FA Z H E σ Fs ∧ ev B.Φ a E = some ((.lst ys, yw), E1) ∧ plains ys = true ∧ brw a (wr b ++ wr c) (.lst ys, yw) = true ∧ ev B.Φ b E1 = some (l, E2) ∧ ev B.Φ c E2 = some (u, E') ∧ sliceI b l.1 = some lo ∧ sliceI c u.1 = some hi ∧ slD lo hi (.lst ys) yw = some x ∧
  ∀ v H' Z' Fd Fs', Pe B.K B.FA (wr a ++ (wr b ++ wr c)) none Z H E Fs σ x E' v Z' H' Fd Fs' → Q v H'
end
end BS

set_option Elab.async false
set_option linter.all false
set_option maxRecDepth 100000
set_option maxHeartbeats 4000000

namespace BS
open PySem PySem.Spec PyProof.Rows L2
section
variable {K : PySem.W.Frag} {FA : Nat → Addr → Prop} {Z H : Hp}
end
section
variable {X : Cx} {B : Bk} {pos p p2 q2 : Pos} {ea : Expr} {a : Ex}
end
end BS

set_option Elab.async false
set_option linter.all false
set_option maxRecDepth 100000
set_option maxHeartbeats 2000000

namespace BS
open PySem PySem.Spec PyProof.Rows L2
section
variable {X : Cx} {B : Bk} {pos p : Pos} {ea : Expr} {a : Ex}
end
end BS

set_option Elab.async false
set_option linter.all false
set_option maxRecDepth 100000
set_option maxHeartbeats 2000000

namespace BS
open PySem PySem.Spec PyProof.Rows L2
section
variable {K : PySem.W.Frag} {FA : Nat → Addr → Prop} {Z Z' H H' : Hp}
end
section
variable {X : Cx} {B : Bk} {pos p1 p2 p3 p4 p5 p6 px cpos apos posE : Pos} {tgE : Expr} {i j : Nat} {x y : Str} {k : Int}
end
section
variable {K : PySem.W.Frag} {FA : Nat → Addr → Prop} {Z H : Hp}

end
section
variable {X : Cx} {B : Bk} {px p2 pos apos posE : Pos} {i l : Nat} {x y : Str}
end
end BS

set_option Elab.async false
set_option linter.all false
set_option maxRecDepth 100000
set_option maxHeartbeats 2000000

namespace BS
open PySem PySem.Spec PyProof.Rows L2
def rMaxK (K : PySem.W.Frag) : List V → List V → Hp → VK → Prop := fun vs zs H Q => ∃ (a : Addr) (ns : List Int) (d : Int), vs = [V.ref a] ∧ zs = [V.int d] ∧ SqL K H a (ns.map V.int) ∧ (ns = [] → Q (.int d) H) ∧ ∀ m, m ∈ ns → (∀ y, y ∈ ns → y ≤ m) → Q (.int m) H
def rMinK (K : PySem.W.Frag) : List V → List V → Hp → VK → Prop := fun vs zs H Q => ∃ (a : Addr) (ns : List Int) (d : Int), vs = [V.ref a] ∧ zs = [V.int d] ∧ SqL K H a (ns.map V.int) ∧ (ns = [] → Q (.int d) H) ∧ ∀ m, m ∈ ns → (∀ y, y ∈ ns → m ≤ y) → Q (.int m) H
section
variable {X : Cx}
end
section
variable {X : Cx} {B : Bk} {pos p kp np : Pos} {ea ed : Expr} {a : Ex} {i : Int}
end
end BS

set_option Elab.async false
set_option linter.all false
set_option maxRecDepth 100000
set_option maxHeartbeats 2000000

namespace BS
open PySem PySem.Spec PyProof.Rows L2
def rRemD (K : PySem.W.Frag) : V → List V → Hp → VK → Prop := fun x us H Q => ∃ (l : Addr) (vs : List V) (y : V) (d : PyData) (ds : List PyData) (j : Nat), x = .ref l ∧ us = [y] ∧ H l = some (.lst vs) ∧ DpAll K H vs ds ∧ Dp K H y d ∧
  PyData.canLayAll0 ds = true ∧ PyData.canLay0 d = true ∧ d.depth ≤ 20 ∧ SeqAt.dataPlace ds d = some j ∧ Q .non (upd H l (.lst (vs.eraseIdx j)))
section
variable {X : Cx}
end
section
variable {K : PySem.W.Frag} {FA : Nat → Addr → Prop} {Z H : Hp}
end
end BS

set_option Elab.async false
set_option linter.all false
set_option maxRecDepth 100000
set_option maxHeartbeats 2000000

namespace BS
open PySem PySem.Spec PyProof.Rows L2

def wU (K : PySem.W.Frag) (c u : Value) (j i : Nat) (z : Str) (D : Ends) (H : Hp) : WX := fun cls d σ' H' => PySem.W.exmOne K cls c = some true ∧ d = none ∧ (∃ C, cls = .ref C ∧ ExcC K C) ∧ ∃ b, PySem.W.kitOne K cls u = some b ∧
  ∃ H2 : Hp, (∀ b, H2 b = H' b ∨ ∃ o u, H' b = some (.frz o u) ∧ H2 b = some u ∧ ∀ o' u', H b ≠ some (.frz o' u')) ∧
    ∀ a, H' a = none → D.nx ((if b = true then (σ'.set j (some (.ref a))).set i (some (.str z)) else σ'.set j (some (.ref a))).set j none) (upd H2 a (.ext fun h => ∃ oe, h.get? a = some oe ∧ oe.cls = cls ∧ oe.dict = d ∧ ∃ vs, oe.data = .fields vs))
section
variable {X : Cx} {B : Bk}
end
end BS

set_option Elab.async false
set_option linter.all false
set_option maxRecDepth 100000
set_option maxHeartbeats 2000000

namespace BS
open PySem PySem.Spec PyProof.Rows L2
section
variable {K : PySem.W.Frag} {FA : Nat → Addr → Prop}
theorem walk_enumS {z : Str} : Walk (IteS z) z.cps.size (fun _ => True) (YPair (fun i => some (.int (i : Nat))) (fun i => z.cps[i]?.map fun c => V.str ⟨#[c]⟩)) := by
  refine ⟨fun _ _ hi _ => hi, fun _ _ => rfl, fun i H v H' _ _ y => ?_⟩
  obtain ⟨T, c, h1, h2, h3, h4⟩ := y
  exact ⟨T, .int (i : Nat), .str ⟨#[c]⟩, h1, h2, h3, rfl, by show Option.map _ z.cps[i]? = _; rw [h4]; rfl⟩
theorem yld_enumS {z : Str} {Z1 : Hp} {G : Hp → Prop} (hok : PyData.strOk z = true) : Yld K FA (enum0 0 (chars z)) Z1 G (YPair (fun i => some (.int (i : Nat))) (fun i => z.cps[i]?.map fun c => V.str ⟨#[c]⟩)) :=
  yld_pair fun i d x y hd hx hy => by
    obtain ⟨a, ea, rfl⟩ := enum0_at hd
    cases hx
    obtain ⟨c, hc, rfl⟩ := Option.map_eq_some_iff.mp hy
    have e0 : a = .str ⟨#[c]⟩ := by
      have : (chars z)[i]? = some (.str ⟨#[c]⟩) := by
        unfold chars
        rw [List.getElem?_map]
        have : z.cps.toList[i]? = some c := by simpa using hc
        rw [this]
        rfl
      rw [this] at ea
      exact (Option.some.inj ea).symm
    subst e0
    have hcm : c ∈ z.cps.toList := List.mem_of_getElem? (i := i) (by simpa using hc)
    exact ⟨_, _, rfl, fun Z' H' le => ⟨⟨by simp, rfl⟩, ⟨⟨rfl, (by decide : 1 ≤ 16777216), strOk_one (strOk_iff.mp hok c hcm)⟩, rfl⟩⟩⟩
end
section
variable {X : Cx} {B : Bk} {pos p pos' tpos apos : Pos} {body : List Stmt} {b : Ss} {ee ea : Expr} {elts : List Expr} {kk : Nat} {e a : Ex} {T : Tg}
theorem ss_enumS (hg' : Gl X "enumerate") (hm : X.mg "enumerate" = none) (he : PE X ee (SE B e)) (hg : PG X (.Tuple elts kk tpos) (tgT B.K T)) (hb : PSs X body (SS B b)) (hp : PassesOwn (model X.prog X.w) X.A X.env X.xe := by first | exact PassesOwn.never | exact PassesOwn.leaving | assumption) (hc : X.calm = true := by rfl) (hK : X.K = B.K := by rfl)
    (hs1 : starEach [ee] X.env = (false, eval ee X.env) :: starEach [] X.env := by rfl) (hs : ∀ x, foldedSetIterable (.Call (.Name "enumerate" p) [ee] [] pos') X.env x = pure x := by intro _; rfl) :
    PS X (.For (.Tuple elts kk tpos) (.Call (.Name "enumerate" p) [ee] [] pos') body [] pos) (SS B (.for_ T .enuS [e] b)) := by
  refine (ps_for hp hc (pi_enumS hg' hm (pa_one he hs1) (hs := hs1)) hg hb hs).imp fun D σ H h => ?_
  obtain ⟨Z, E, Fs, o, s, hx, q⟩ := h
  obtain ⟨xs, E1', its, h1, h2, h3⟩ := ex_for hx
  obtain ⟨x, E1, h0, hcase⟩ := evit1 (show evit B.Φ _ [e] E = some (xs, E1') from h1)
  refine ⟨Z, E, Fs, x, E1, s, h0, fun v H1 Z1 Fd Fs1 pp => ?_⟩
  obtain ⟨Z2, Fs2, s2, c2, d2, l2, t2, st2, _⟩ := pp.src hcase
  rw [d2] at h2
  cases hd : x.1 with
  | str z =>
    rw [hd] at h2
    simp only [items, Option.some.injEq] at h2
    subst h2
    obtain ⟨rfl, hl, hok⟩ := st2 z hd
    refine ⟨z, rfl, ?_⟩
    exact for_se (walk_enumS (z := z)) s2 (by rw [enum0_len]; simp [chars]) h3 (fun {H' Z' E' Fs'} c s' => trivial) (yld_enumS hok) (for_post q (c2.mono (wrs1 e)))
  | _ => rw [hd] at h2; simp [items] at h2
theorem ok_cntS {z : Str} : Ok1 B (app1 (.cntS z)) (fun v H Q => (∃ s, v = .str s) ∧ ∃ s t, v = .str s ∧ [V.str z] = [.str t] ∧ Q (.int (Txt.count s t)) H) := by
  intro d d' v w F Z H Q hs r he k
  cases d with
  | str s =>
    simp only [app1, Option.some.injEq] at he
    subst he
    have e : v = .str s := r.1.1
    exact ⟨⟨s, e⟩, s, z, e, rfl, k _ fun w => ⟨rfl, rfl⟩⟩
  | _ => simp [app1] at he
theorem sx_cntS {z : Str} {j : Nat} {cp : Pos} (ha : PE X ea (SE B a)) (hs : starEach [.Constant (.str z) j cp] X.env = [(false, eval (.Constant (.str z) j cp) X.env)] := by rfl) (hbase : attributeBase ea "count" X.env (eval ea X.env) = eval ea X.env := by rfl) (hline : (apos.endLine == pos.line) = true := by rfl) :
    PE X (.Call (.Attribute ea "count" apos) [.Constant (.str z) j cp] [] pos) (SE B (.op1 (.cntS z) a)) :=
  (pe_m1 F.slot_str_count F.type_str_count mt_count ha pe_str hs hbase hline).imp fun _ _ _ h => se1 ok_cntS h
end
end BS

set_option Elab.async false
set_option linter.all false
set_option maxRecDepth 100000
set_option maxHeartbeats 2000000

namespace BS
open PySem
section
variable {Φ : Phi}
def EV (Φ : Phi) (e : Ex) (E : En) (P : Val → En → Prop) : Prop := ∃ x E', ev Φ e E = some (x, E') ∧ P x E'
def EVs (Φ : Phi) (es : List Ex) (E : En) (P : List Val → En → Prop) : Prop := ∃ x E', evs Φ es E = some (x, E') ∧ P x E'
def EVi (Φ : Phi) (w : List Nat) (es : List Ex) (E : En) (P : List Val → En → Prop) : Prop := ∃ x E', evit Φ w es E = some (x, E') ∧ P x E'
def EVa (Φ : Phi) (es : List Ex) (E : En) (P : List Ar → En → Prop) : Prop := ∃ x E', eva Φ es E = some (x, E') ∧ P x E'
def EX (Φ : Phi) (s : Ss) (E : En) (N : En → Prop) (R : Val → En → Prop) : Prop := ∃ o, ex Φ s E = some o ∧ (match o with | .nx E' => N E' | .rt x E' => R x E' | .rs _ _ => False)
theorem ex2 {α β : Type} {a : α} {b : β} {P : α → β → Prop} : (∃ x E', some (a, b) = some (x, E') ∧ P x E') ↔ P a b := ⟨by rintro ⟨x, E', h, p⟩; cases h; exact p, fun p => ⟨_, _, rfl, p⟩⟩
theorem EV.imp {e E P Q} (h : EV Φ e E P) (k : ∀ x E', P x E' → Q x E') : EV Φ e E Q := let ⟨x, E', a, b⟩ := h; ⟨x, E', a, k _ _ b⟩
theorem EX.imp {s E N R N' R'} (h : EX Φ s E N R) (k : ∀ E', N E' → N' E') (k' : ∀ x E', R x E' → R' x E') : EX Φ s E N' R' := by
  obtain ⟨o, a, b⟩ := h
  refine ⟨o, a, ?_⟩
  cases o with
  | nx E' => exact k _ b
  | rt x E' => exact k' _ _ b
  | rs x E' => exact b.elim
theorem EV_int {i E P} : EV Φ (.int i) E P ↔ P (.int i, .deep) E := by unfold EV; simp only [ev]; exact ex2
theorem EV_str {i E P} : EV Φ (.str i) E P ↔ P (.str i, .deep) E := by unfold EV; simp only [ev]; exact ex2
theorem EV_bl {i E P} : EV Φ (.bl i) E P ↔ P (.bl i, .deep) E := by unfold EV; simp only [ev]; exact ex2
theorem EV_non {E P} : EV Φ .non E P ↔ P (.non, .deep) E := by unfold EV; simp only [ev]; exact ex2
theorem EV_glo {d E P} : EV Φ (.glo d) E P ↔ P (d, .deep) E := by unfold EV; simp only [ev]; exact ex2
theorem EV_var {i E P} : EV Φ (.var i) E P ↔ ∃ x, E[i]? = some (some x) ∧ P x E := by
  unfold EV
  simp only [ev]
  cases E[i]? with
  | none => simp
  | some o =>
    cases o with
    | none => simp
    | some x =>
      simp only [Option.some.injEq]
      exact ⟨by rintro ⟨y, E', h, p⟩; cases h; exact ⟨x, rfl, p⟩, by rintro ⟨y, rfl, p⟩; exact ⟨_, _, rfl, p⟩⟩
theorem EV_op1 {o a E P} : EV Φ (.op1 o a) E P ↔ EV Φ a E fun x E1 => ∃ d, app1 o x.1 = some d ∧ P (d, .deep) E1 := by
  unfold EV
  simp only [ev, Option.bind_eq_bind, Option.bind_eq_some_iff, Prod.exists, Option.some.injEq, Prod.mk.injEq]
  constructor
  · rintro ⟨d, w, E', ⟨x, w', E1, h1, d', h2, ⟨rfl, rfl⟩, rfl⟩, p⟩
    exact ⟨x, w', E1, h1, d', h2, p⟩
  · rintro ⟨x, w', E1, h1, d', h2, p⟩
    exact ⟨d', .deep, E1, ⟨x, w', E1, h1, d', h2, by simp, rfl⟩, p⟩
theorem EV_op2 {o a b E P} : EV Φ (.op2 o a b) E P ↔ EV Φ a E fun x E1 => brw a (wr b) x = true ∧ EV Φ b E1 fun y E2 => ∃ d, app2 o x.1 y.1 = some d ∧ P (d, .deep) E2 := by
  unfold EV
  simp only [ev, Option.bind_eq_bind, Option.bind_eq_some_iff, Prod.exists]
  constructor
  · rintro ⟨d, w, E', ⟨x, w', E1, h1, h2⟩, p⟩
    split at h2
    · rename_i hb
      simp only [Option.bind_eq_some_iff, Prod.exists, Option.some.injEq, Prod.mk.injEq] at h2
      obtain ⟨y, u, E2, h3, d', h4, ⟨rfl, rfl⟩, rfl⟩ := h2
      exact ⟨x, w', E1, h1, hb, y, u, E2, h3, d', h4, p⟩
    · cases h2
  · rintro ⟨x, w', E1, h1, hb, y, u, E2, h3, d', h4, p⟩
    refine ⟨d', .deep, E2, ⟨x, w', E1, h1, ?_⟩, p⟩
    rw [if_pos hb]
    simp only [Option.bind_eq_some_iff, Prod.exists, Option.some.injEq, Prod.mk.injEq]
    exact ⟨y, u, E2, h3, d', h4, by simp, rfl⟩
theorem EV_ix {a b E P} : EV Φ (.ix a b) E P ↔ EV Φ a E fun x E1 => brw a (wr b) x = true ∧ EV Φ b E1 fun y E2 => ∃ d, item x.1 y.1 = some d ∧ P (vl d (kid x.2)) E2 := by
  unfold EV
  simp only [ev, Option.bind_eq_bind, Option.bind_eq_some_iff, Prod.exists]
  constructor
  · rintro ⟨d, w, E', ⟨x, w', E1, h1, h2⟩, p⟩
    split at h2
    · rename_i hb
      simp only [Option.bind_eq_some_iff, Prod.exists, Option.some.injEq, Prod.mk.injEq] at h2
      obtain ⟨y, u, E2, h3, d', h4, e1, rfl⟩ := h2
      exact ⟨x, w', E1, h1, hb, y, u, E2, h3, d', h4, by rw [e1]; exact p⟩
    · cases h2
  · rintro ⟨x, w', E1, h1, hb, y, u, E2, h3, d', h4, p⟩
    refine ⟨(vl d' (kid w')).1, (vl d' (kid w')).2, E2, ⟨x, w', E1, h1, ?_⟩, p⟩
    rw [if_pos hb]
    simp only [Option.bind_eq_some_iff, Prod.exists, Option.some.injEq, Prod.mk.injEq]
    exact ⟨y, u, E2, h3, d', h4, rfl, rfl⟩
theorem EVs_nil {E P} : EVs Φ [] E P ↔ P [] E := by unfold EVs; simp only [evs]; exact ex2
theorem EVs_cons {e es E P} : EVs Φ (e :: es) E P ↔ EV Φ e E fun x E1 => EVs Φ es (esc e x E1).2 fun xs E2 => P ((esc e x E1).1 :: xs) E2 := by
  unfold EVs EV
  simp only [evs, Option.bind_eq_bind, Option.bind_eq_some_iff, Prod.exists, Option.some.injEq, Prod.mk.injEq]
  constructor
  · rintro ⟨l, E', ⟨x, w, E1, h1, xs, E2, h2, rfl, rfl⟩, p⟩
    exact ⟨x, w, E1, h1, xs, E2, h2, p⟩
  · rintro ⟨x, w, E1, h1, xs, E2, h2, p⟩
    exact ⟨_, _, ⟨x, w, E1, h1, xs, E2, h2, rfl, rfl⟩, p⟩
theorem EV_tup {es E P} : EV Φ (.tup es) E P ↔ EVs Φ es E fun xs E1 => P (mkTup xs) E1 := by
  unfold EVs EV
  simp only [ev, Option.bind_eq_bind, Option.bind_eq_some_iff, Prod.exists, Option.some.injEq, Prod.mk.injEq]
  constructor
  · rintro ⟨d, w, E', ⟨xs, E1, h1, e, rfl⟩, p⟩
    exact ⟨xs, E1, h1, by rw [e]; exact p⟩
  · rintro ⟨xs, E1, h1, p⟩
    exact ⟨_, _, _, ⟨xs, E1, h1, rfl, rfl⟩, p⟩
theorem EV_lst {es E P} : EV Φ (.lst es) E P ↔ EVs Φ es E fun xs E1 => P (mkLst xs) E1 := by
  unfold EVs EV
  simp only [ev, Option.bind_eq_bind, Option.bind_eq_some_iff, Prod.exists, Option.some.injEq, Prod.mk.injEq]
  constructor
  · rintro ⟨d, w, E', ⟨xs, E1, h1, e, rfl⟩, p⟩
    exact ⟨xs, E1, h1, by rw [e]; exact p⟩
  · rintro ⟨xs, E1, h1, p⟩
    exact ⟨_, _, _, ⟨xs, E1, h1, rfl, rfl⟩, p⟩
theorem EV_and {a b E P} : EV Φ (.and a b) E P ↔ EV Φ a E fun x E1 => (x.1 = .bl true ∧ EV Φ b E1 fun y E2 => ∃ c, y.1 = .bl c ∧ P (.bl c, .deep) E2) ∨ (x.1 = .bl false ∧ P (.bl false, .deep) E1) := by
  unfold EV
  simp only [ev, Option.bind_eq_bind, Option.bind_eq_some_iff, Prod.exists]
  constructor
  · rintro ⟨d, w, E', ⟨x, w', E1, h1, h2⟩, p⟩
    refine ⟨x, w', E1, h1, ?_⟩
    cases x with
    | bl k =>
      cases k with
      | true =>
        simp only [Option.bind_eq_some_iff, Prod.exists] at h2
        obtain ⟨y, u, E2, h3, h4⟩ := h2
        cases y with
        | bl c =>
          simp only [Option.some.injEq, Prod.mk.injEq] at h4
          obtain ⟨⟨rfl, rfl⟩, rfl⟩ := h4
          exact .inl ⟨rfl, _, _, _, h3, c, rfl, p⟩
        | _ => cases h4
      | false =>
        simp only [Option.some.injEq, Prod.mk.injEq] at h2
        obtain ⟨⟨rfl, rfl⟩, rfl⟩ := h2
        exact .inr ⟨rfl, p⟩
    | _ => cases h2
  · rintro ⟨x, w', E1, h1, h2⟩
    rcases h2 with ⟨rfl, y, u, E2, h3, c, rfl, p⟩ | ⟨rfl, p⟩
    · exact ⟨_, _, _, ⟨_, _, _, h1, by simp only [Option.bind_eq_some_iff, Prod.exists]; exact ⟨_, _, _, h3, rfl⟩⟩, p⟩
    · exact ⟨_, _, _, ⟨_, _, _, h1, rfl⟩, p⟩
theorem EV_or {a b E P} : EV Φ (.or a b) E P ↔ EV Φ a E fun x E1 => (x.1 = .bl false ∧ EV Φ b E1 fun y E2 => ∃ c, y.1 = .bl c ∧ P (.bl c, .deep) E2) ∨ (x.1 = .bl true ∧ P (.bl true, .deep) E1) := by
  unfold EV
  simp only [ev, Option.bind_eq_bind, Option.bind_eq_some_iff, Prod.exists]
  constructor
  · rintro ⟨d, w, E', ⟨x, w', E1, h1, h2⟩, p⟩
    refine ⟨x, w', E1, h1, ?_⟩
    cases x with
    | bl k =>
      cases k with
      | false =>
        simp only [Option.bind_eq_some_iff, Prod.exists] at h2
        obtain ⟨y, u, E2, h3, h4⟩ := h2
        cases y with
        | bl c =>
          simp only [Option.some.injEq, Prod.mk.injEq] at h4
          obtain ⟨⟨rfl, rfl⟩, rfl⟩ := h4
          exact .inl ⟨rfl, _, _, _, h3, c, rfl, p⟩
        | _ => cases h4
      | true =>
        simp only [Option.some.injEq, Prod.mk.injEq] at h2
        obtain ⟨⟨rfl, rfl⟩, rfl⟩ := h2
        exact .inr ⟨rfl, p⟩
    | _ => cases h2
  · rintro ⟨x, w', E1, h1, h2⟩
    rcases h2 with ⟨rfl, y, u, E2, h3, c, rfl, p⟩ | ⟨rfl, p⟩
    · exact ⟨_, _, _, ⟨_, _, _, h1, by simp only [Option.bind_eq_some_iff, Prod.exists]; exact ⟨_, _, _, h3, rfl⟩⟩, p⟩
    · exact ⟨_, _, _, ⟨_, _, _, h1, rfl⟩, p⟩
theorem EV_ife {c a b E P} : EV Φ (.ife c a b) E P ↔ EV Φ c E fun x E1 => (x.1 = .bl true ∧ EV Φ a E1 fun y E2 => P (esc a y E2).1 (esc a y E2).2) ∨ (x.1 = .bl false ∧ EV Φ b E1 fun y E2 => P (esc b y E2).1 (esc b y E2).2) := by
  unfold EV
  simp only [ev, Option.bind_eq_bind, Option.bind_eq_some_iff, Prod.exists]
  constructor
  · rintro ⟨d, w, E', ⟨x, w', E1, h1, h2⟩, p⟩
    refine ⟨x, w', E1, h1, ?_⟩
    cases x with
    | bl k =>
      cases k with
      | true =>
        simp only [Option.bind_eq_some_iff, Prod.exists] at h2
        obtain ⟨y, u, E2, h3, h4⟩ := h2
        simp only [Option.some.injEq] at h4
        exact .inl ⟨rfl, _, _, _, h3, by rw [h4]; exact p⟩
      | false =>
        simp only [Option.bind_eq_some_iff, Prod.exists] at h2
        obtain ⟨y, u, E2, h3, h4⟩ := h2
        simp only [Option.some.injEq] at h4
        exact .inr ⟨rfl, _, _, _, h3, by rw [h4]; exact p⟩
    | _ => cases h2
  · rintro ⟨x, w', E1, h1, h2⟩
    rcases h2 with ⟨rfl, y, u, E2, h3, p⟩ | ⟨rfl, y, u, E2, h3, p⟩
    · exact ⟨_, _, _, ⟨_, _, _, h1, by simp only [Option.bind_eq_some_iff, Prod.exists]; exact ⟨_, _, _, h3, rfl⟩⟩, p⟩
    · exact ⟨_, _, _, ⟨_, _, _, h1, by simp only [Option.bind_eq_some_iff, Prod.exists]; exact ⟨_, _, _, h3, rfl⟩⟩, p⟩

theorem EX_skip {E N R} : EX Φ .skip E N R ↔ N E := by simp [EX, ex]
theorem EX_seq {a b E N R} : EX Φ (.seq a b) E N R ↔ EX Φ a E (fun E1 => EX Φ b E1 N R) R := by
  unfold EX
  simp only [ex]
  cases ex Φ a E with
  | none => simp
  | some o => cases o <;> simp
theorem EX_setv {i e E N R} : EX Φ (.set (.v i) e) E N R ↔ EV Φ e E fun x E1 => N ((esc e x E1).2.set i (some (esc e x E1).1)) := by
  unfold EX EV
  simp only [ex, Option.bind_eq_bind, Option.bind_eq_some_iff, Prod.exists, bindT, Option.some.injEq]
  constructor
  · rintro ⟨o, ⟨x, w, E1, h1, E2, rfl, rfl⟩, p⟩
    exact ⟨x, w, E1, h1, p⟩
  · rintro ⟨x, w, E1, h1, p⟩
    exact ⟨_, ⟨x, w, E1, h1, _, rfl, rfl⟩, p⟩
theorem EX_setT {is e E N R} : EX Φ (.set (.t is) e) E N R ↔ EV Φ e E fun x E1 => ∃ E2, bindT (.t is) (esc e x E1).1 (esc e x E1).2 = some E2 ∧ N E2 := by
  unfold EX EV
  simp only [ex, Option.bind_eq_bind, Option.bind_eq_some_iff, Prod.exists, Option.some.injEq]
  constructor
  · rintro ⟨o, ⟨x, w, E1, h1, E2, h2, rfl⟩, p⟩
    exact ⟨x, w, E1, h1, E2, h2, p⟩
  · rintro ⟨x, w, E1, h1, E2, h2, p⟩
    exact ⟨_, ⟨x, w, E1, h1, E2, h2, rfl⟩, p⟩
theorem EX_expr {e E N R} : EX Φ (.expr e) E N R ↔ EV Φ e E fun _ E1 => N E1 := by
  unfold EX EV
  simp only [ex, Option.bind_eq_bind, Option.bind_eq_some_iff, Prod.exists, Option.some.injEq]
  constructor
  · rintro ⟨o, ⟨x, w, E1, h1, rfl⟩, p⟩
    exact ⟨x, w, E1, h1, p⟩
  · rintro ⟨x, w, E1, h1, p⟩
    exact ⟨_, ⟨x, w, E1, h1, rfl⟩, p⟩
theorem EX_ite {c a b E N R} : EX Φ (.ite c a b) E N R ↔ EV Φ c E fun x E1 => (x.1 = .bl true ∧ EX Φ a E1 N R) ∨ (x.1 = .bl false ∧ EX Φ b E1 N R) := by
  unfold EX EV
  simp only [ex, Option.bind_eq_bind, Option.bind_eq_some_iff, Prod.exists]
  constructor
  · rintro ⟨o, ⟨x, w, E1, h1, h2⟩, p⟩
    refine ⟨x, w, E1, h1, ?_⟩
    cases x with
    | bl k => cases k <;> simp_all
    | _ => cases h2
  · rintro ⟨x, w, E1, h1, h2⟩
    rcases h2 with ⟨rfl, o, h2, p⟩ | ⟨rfl, o, h2, p⟩
    · exact ⟨o, ⟨_, _, _, h1, h2⟩, p⟩
    · exact ⟨o, ⟨_, _, _, h1, h2⟩, p⟩
theorem EX_retn {E N R} : EX Φ .retn E N R ↔ R (.non, .deep) E := by simp [EX, ex]
theorem EX_retv {i E N R} : EX Φ (.ret (.var i)) E N R ↔ ∃ x, E[i]? = some (some x) ∧ R x (if plain x.1 then E else E.set i none) := by
  unfold EX
  simp only [ex]
  cases E[i]? with
  | none => simp
  | some o => cases o <;> simp
theorem EX_ret {e E N R} (h : ∀ i, e ≠ .var i := by intro i z; cases z) : EX Φ (.ret e) E N R ↔ EV Φ e E fun x E1 => R (esc e x E1).1 (esc e x E1).2 := by
  unfold EX EV
  have e0 : ex Φ (.ret e) E = (do
    let (x, E) ← ev Φ e E
    let (x, E) := esc e x E
    some (.rt x E)) := by
    cases e <;> first | rfl | exact absurd rfl (h _)
  rw [e0]
  simp only [Option.bind_eq_bind, Option.bind_eq_some_iff, Prod.exists, Option.some.injEq]
  constructor
  · rintro ⟨o, ⟨x, w, E1, h1, rfl⟩, p⟩
    exact ⟨x, w, E1, h1, p⟩
  · rintro ⟨x, w, E1, h1, p⟩
    exact ⟨_, ⟨x, w, E1, h1, rfl⟩, p⟩
end
end BS

set_option Elab.async false
set_option linter.all false
set_option maxRecDepth 100000
set_option maxHeartbeats 2000000
namespace BS
open PySem
section
variable {Φ : Phi}

theorem EVa_nil {E P} : EVa Φ [] E P ↔ P [] E := by unfold EVa; simp only [eva]; exact ex2
theorem EVa_io {i es E P} : EVa Φ (.io i :: es) E P ↔ ∃ x, E[i]? = some (some x) ∧ EVa Φ es E fun xs E1 => P (.inr i :: xs) E1 := by
  unfold EVa
  simp only [eva]
  cases E[i]? with
  | none => simp
  | some o =>
    cases o with
    | none => simp
    | some y =>
      simp only [Option.bind_eq_bind, Option.bind_eq_some_iff, Prod.exists, Option.some.injEq, Prod.mk.injEq]
      constructor
      · rintro ⟨l, E', ⟨xs, E1, h1, rfl, rfl⟩, p⟩
        exact ⟨y.1, y.2, rfl, xs, E1, h1, p⟩
      · rintro ⟨_, _, _, xs, E1, h1, p⟩
        exact ⟨_, _, ⟨xs, E1, h1, rfl, rfl⟩, p⟩
def isIo : Ex → Bool
  | .io _ => true
  | _ => false
theorem EVa_cons {e es E P} (h : isIo e = false) : EVa Φ (e :: es) E P ↔ EV Φ e E fun x E1 => EVa Φ es (esc e x E1).2 fun xs E2 => P (.inl (esc e x E1).1 :: xs) E2 := by
  have e0 : eva Φ (e :: es) E = (do
    let (x, E) ← ev Φ e E
    let (x, E) := esc e x E
    let (xs, E) ← eva Φ es E
    some (.inl x :: xs, E)) := by
    cases e <;> first | rfl | simp [isIo] at h
  unfold EVa EV
  rw [e0]
  simp only [Option.bind_eq_bind, Option.bind_eq_some_iff, Prod.exists, Option.some.injEq, Prod.mk.injEq]
  constructor
  · rintro ⟨l, E', ⟨x, w, E1, h1, xs, E2, h2, rfl, rfl⟩, p⟩
    exact ⟨x, w, E1, h1, xs, E2, h2, p⟩
  · rintro ⟨x, w, E1, h1, xs, E2, h2, p⟩
    exact ⟨_, _, ⟨x, w, E1, h1, xs, E2, h2, rfl, rfl⟩, p⟩

def CL (Φ : Phi) (g : Nat) (vs : List Val) (P : Val → List (Option Val) → Prop) : Prop := ∃ r os, Φ g vs = some (r, os) ∧ P r os
def GA (as : List Ar) (E : En) (P : List Val → En → Prop) : Prop := ∃ vs E2, gat as E = some (vs, E2) ∧ P vs E2
theorem GA_nil {E P} : GA [] E P ↔ P [] E := by unfold GA; simp only [gat]; exact ex2
theorem GA_inl {x as E P} : GA (.inl x :: as) E P ↔ GA as E fun vs E2 => P (x :: vs) E2 := by
  unfold GA
  simp only [gat, Option.bind_eq_bind, Option.bind_eq_some_iff, Prod.exists, Option.some.injEq, Prod.mk.injEq]
  constructor
  · rintro ⟨l, E', ⟨xs, E1, h1, rfl, rfl⟩, p⟩
    exact ⟨xs, E1, h1, p⟩
  · rintro ⟨xs, E1, h1, p⟩
    exact ⟨_, _, ⟨xs, E1, h1, rfl, rfl⟩, p⟩
theorem GA_inr {i as E P} : GA (.inr i :: as) E P ↔ ∃ x, E[i]? = some (some x) ∧ GA as (E.set i none) fun vs E2 => P (x :: vs) E2 := by
  unfold GA
  simp only [gat]
  cases E[i]? with
  | none => simp
  | some o =>
    cases o with
    | none => simp
    | some y =>
      simp only [Option.bind_eq_bind, Option.bind_eq_some_iff, Prod.exists, Option.some.injEq, Prod.mk.injEq]
      constructor
      · rintro ⟨l, E', ⟨xs, E1, h1, rfl, rfl⟩, p⟩
        exact ⟨y.1, y.2, rfl, xs, E1, h1, p⟩
      · rintro ⟨_, _, rfl, xs, E1, h1, p⟩
        exact ⟨_, _, ⟨xs, E1, h1, rfl, rfl⟩, p⟩
theorem EV_call {g es E P} : EV Φ (.call g es) E P ↔ EVa Φ es E fun as E1 => GA as E1 fun vs E2 => CL Φ g vs fun r os => P r (scat as os E2) := by
  unfold EV EVa GA CL
  simp only [ev, callG, Option.bind_eq_bind, Option.bind_eq_some_iff, Prod.exists, Option.some.injEq, Prod.mk.injEq]
  constructor
  · rintro ⟨d, w, E', ⟨as, E1, h1, vs, E2, h2, r, u, os, h3, ⟨rfl, rfl⟩, rfl⟩, p⟩
    exact ⟨as, E1, h1, vs, E2, h2, r, u, os, h3, p⟩
  · rintro ⟨as, E1, h1, vs, E2, h2, r, u, os, h3, p⟩
    exact ⟨_, _, _, ⟨as, E1, h1, vs, E2, h2, r, u, os, h3, ⟨rfl, rfl⟩, rfl⟩, p⟩
theorem CL.imp {g vs P Q} (h : CL Φ g vs P) (k : ∀ r os, P r os → Q r os) : CL Φ g vs Q := let ⟨r, os, a, b⟩ := h; ⟨r, os, a, k _ _ b⟩

theorem CL_def {tab : Nat → Option Def} {n g : Nat} {d : Def} {vs P} (ht : tab g = some d) (hl : vs.length = d.np) (h : EX (call tab n) d.body (vs.map some ++ List.replicate (d.ns - d.np) none) (fun E => P (.non, .deep) (outs d E)) (fun x E => P x (outs d E))) : CL (call tab (n + 1)) g vs P := by
  obtain ⟨o, h1, h2⟩ := h
  unfold CL
  simp only [call, ht, callD, hl, if_true]
  rw [h1]
  cases o with
  | nx E => exact ⟨_, _, rfl, h2⟩
  | rt x E => exact ⟨_, _, rfl, h2⟩
  | rs x E => exact h2.elim

theorem EV_sl {a b c E P} : EV Φ (.sl a b c) E P ↔ EV Φ a E fun x E1 => brw a (wr b ++ wr c) (kesc a x E1).1 = true ∧ EV Φ b (kesc a x E1).2 fun l E2 => EV Φ c E2 fun h E3 => ∃ lo hi r, sliceI b l.1 = some lo ∧ sliceI c h.1 = some hi ∧ slD lo hi (kesc a x E1).1.1 (kesc a x E1).1.2 = some r ∧ P r E3 := by
  unfold EV
  simp only [ev, Option.bind_eq_bind, Option.bind_eq_some_iff, Prod.exists]
  constructor
  · rintro ⟨d, w, E', ⟨x, w', E1, h1, h2⟩, p⟩
    split at h2
    · rename_i hb
      simp only [Option.bind_eq_some_iff, Prod.exists, Option.some.injEq, Prod.mk.injEq] at h2
      obtain ⟨l, lw, E2, h3, h, hw, E3, h4, lo, h5, hi, h6, r, rw', h7, e1, rfl⟩ := h2
      exact ⟨x, w', E1, h1, hb, l, lw, E2, h3, h, hw, E3, h4, lo, hi, r, rw', h5, h6, h7, by rw [e1.1, e1.2]; exact p⟩
    · cases h2
  · rintro ⟨x, w', E1, h1, hb, l, lw, E2, h3, h, hw, E3, h4, lo, hi, r, rw', h5, h6, h7, p⟩
    refine ⟨r, rw', E3, ⟨x, w', E1, h1, ?_⟩, p⟩
    rw [if_pos hb]
    simp only [Option.bind_eq_some_iff, Prod.exists, Option.some.injEq, Prod.mk.injEq]
    exact ⟨l, lw, E2, h3, h, hw, E3, h4, lo, h5, hi, h6, r, rw', h7, ⟨rfl, rfl⟩, rfl⟩
def listD : Val → Option Val
  | (.lst xs, w) => some (newLst xs w)
  | (.tup xs, w) => some (newLst xs w)
  | (.dic false kvs, _) => (keysI kvs).map fun ns => (.lst (ns.map .int), .deep)
  | _ => none
theorem EV_list {a E P} : EV Φ (.opP .list a) E P ↔ EV Φ a E fun x E1 => ∃ r, listD (kesc a x E1).1 = some r ∧ P r (kesc a x E1).2 := by
  unfold EV
  simp only [ev, Option.bind_eq_bind, Option.bind_eq_some_iff, Prod.exists]
  constructor
  · rintro ⟨d, w, E', ⟨x, w', E1, h1, h2⟩, p⟩
    refine ⟨x, w', E1, h1, ?_⟩
    generalize kesc a (x, w') E1 = k at *
    obtain ⟨⟨kd, kw⟩, E2⟩ := k
    cases kd with
    | lst xs => cases h2; exact ⟨_, _, rfl, p⟩
    | tup xs => cases h2; exact ⟨_, _, rfl, p⟩
    | dic t kvs =>
      cases t with
      | true => cases h2
      | false =>
        simp only [Option.map_eq_some_iff, Prod.mk.injEq] at h2
        obtain ⟨ns, hns, ⟨rfl, rfl⟩, rfl⟩ := h2
        exact ⟨_, _, by simp only [listD]; rw [hns]; rfl, p⟩
    | _ => cases h2
  · rintro ⟨x, w', E1, h1, r, rw', h2, p⟩
    refine ⟨r, rw', (kesc a (x, w') E1).2, ⟨x, w', E1, h1, ?_⟩, p⟩
    generalize kesc a (x, w') E1 = k at *
    obtain ⟨⟨kd, kw⟩, E2⟩ := k
    cases kd with
    | lst xs => simp [listD] at h2 ⊢; exact h2
    | tup xs => simp [listD] at h2 ⊢; exact h2
    | dic t kvs =>
      cases t with
      | true => cases h2
      | false =>
        simp only [listD, Option.map_eq_some_iff, Prod.mk.injEq] at h2 ⊢
        obtain ⟨ns, hns, rfl, rfl⟩ := h2
        exact ⟨ns, hns, ⟨rfl, rfl⟩, trivial⟩
    | _ => cases h2
def catD : Val → Val → Option Val
  | (.lst xs, w), (.lst ys, u) =>
    if xs.length + ys.length ≤ line ∧ ((w = .deep ∧ u = .deep) ∨ ((w ≠ .deep ∨ plains xs = true) ∧ (u ≠ .deep ∨ plains ys = true))) then
      some (newLst (xs ++ ys) (if w = .deep ∧ u = .deep then .deep else .sh)) else none
  | _, _ => none
theorem EV_cat {a b E P} : EV Φ (.cat a b) E P ↔ EV Φ a E fun x E1 => brw a (wr b) (kesc a x E1).1 = true ∧ EV Φ b (kesc a x E1).2 fun y E2 => ∃ r, catD (kesc a x E1).1 (kesc b y E2).1 = some r ∧ P r (kesc b y E2).2 := by
  unfold EV
  simp only [ev, Option.bind_eq_bind, Option.bind_eq_some_iff, Prod.exists]
  constructor
  · rintro ⟨d, w, E', ⟨x, w', E1, h1, h2⟩, p⟩
    split at h2
    · rename_i hb
      simp only [Option.bind_eq_some_iff, Prod.exists] at h2
      obtain ⟨y, u, E2, h3, h4⟩ := h2
      refine ⟨x, w', E1, h1, hb, y, u, E2, h3, ?_⟩
      generalize kesc a (x, w') E1 = k at *
      generalize kesc b (y, u) E2 = l at *
      obtain ⟨⟨kd, kw⟩, E3⟩ := k
      obtain ⟨⟨ld, lw⟩, E4⟩ := l
      cases kd <;> cases ld <;> simp only [reduceCtorEq] at h4
      split at h4
      · rename_i hc
        simp only [Option.some.injEq, Prod.mk.injEq] at h4
        obtain ⟨e1, rfl⟩ := h4
        exact ⟨_, _, by simp only [catD]; rw [if_pos hc], by rw [e1]; exact p⟩
      · cases h4
    · cases h2
  · rintro ⟨x, w', E1, h1, hb, y, u, E2, h3, r, rw', h4, p⟩
    refine ⟨r, rw', (kesc b (y, u) E2).2, ⟨x, w', E1, h1, ?_⟩, p⟩
    rw [if_pos hb]
    simp only [Option.bind_eq_some_iff, Prod.exists]
    refine ⟨y, u, E2, h3, ?_⟩
    generalize kesc a (x, w') E1 = k at *
    generalize kesc b (y, u) E2 = l at *
    obtain ⟨⟨kd, kw⟩, E3⟩ := k
    obtain ⟨⟨ld, lw⟩, E4⟩ := l
    cases kd <;> cases ld <;> simp only [catD, reduceCtorEq] at h4
    split at h4
    · rename_i hc
      simp only [Option.some.injEq] at h4
      simp only [if_pos hc, h4]
    · cases h4

theorem EX_setIx {i k e E N R} : EX Φ (.setIx i k e) E N R ↔ EV Φ e E fun x E1 => ∃ z, (esc e x E1).2[i]? = some (some z) ∧ EV Φ k (esc e x E1).2 fun y E2 => ∃ r E3, chg i [] (plain (esc e x E1).1.1 || decide ((esc e x E1).1.2 = .deep)) (setD y.1 (esc e x E1).1.1) E2 = some (r, E3) ∧ N E3 := by
  unfold EX EV
  simp only [ex, Option.bind_eq_bind, Option.bind_eq_some_iff, Prod.exists]
  constructor
  · rintro ⟨o, ⟨x, w, E1, h1, h2⟩, p⟩
    refine ⟨x, w, E1, h1, ?_⟩
    generalize esc e (x, w) E1 = k at *
    obtain ⟨⟨kd, kw⟩, E2⟩ := k
    simp only at h2 ⊢
    cases hz : E2[i]? with
    | none => rw [hz] at h2; cases h2
    | some z =>
      rw [hz] at h2
      cases z with
      | none => cases h2
      | some z =>
        simp only [Option.bind_eq_some_iff, Prod.exists] at h2
        obtain ⟨y, u, E3, h3, r, rw', E4, h4, h5⟩ := h2
        simp only [Option.some.injEq] at h5
        subst h5
        exact ⟨z.1, z.2, rfl, y, u, E3, h3, r, rw', E4, h4, p⟩
  · rintro ⟨x, w, E1, h1, z, zw, hz, y, u, E3, h3, r, rw', E4, h4, p⟩
    refine ⟨.nx E4, ⟨x, w, E1, h1, ?_⟩, p⟩
    generalize esc e (x, w) E1 = k at *
    obtain ⟨⟨kd, kw⟩, E2⟩ := k
    simp only at *
    rw [hz]
    simp only [Option.bind_eq_some_iff, Prod.exists]
    exact ⟨y, u, E3, h3, r, rw', E4, h4, rfl⟩
end
end BS

set_option Elab.async false
set_option linter.all false
set_option maxRecDepth 100000
set_option maxHeartbeats 2000000
namespace BS
open PySem
section
variable {Φ : Phi}

theorem EVi_nil {w E P} : EVi Φ w [] E P ↔ P [] E := by unfold EVi; simp only [evit]; exact ex2

def hold (w : List Nat) (e : Ex) (x : Val) (E : En) : Val × En := if isPl e && kplain x.1 && !isDicD x.1 && !w.contains (root e) then (x, E) else esc e x E
theorem EVi_cons {w e es E P} : EVi Φ w (e :: es) E P ↔ EV Φ e E fun x E1 => EVi Φ w es (hold w e x E1).2 fun xs E2 => P ((hold w e x E1).1 :: xs) E2 := by
  unfold EVi EV hold
  simp only [evit, Option.bind_eq_bind, Option.bind_eq_some_iff, Prod.exists, Option.some.injEq, Prod.mk.injEq]
  constructor
  · rintro ⟨l, E', ⟨x, u, E1, h1, xs, E2, h2, rfl, rfl⟩, p⟩
    exact ⟨x, u, E1, h1, xs, E2, h2, p⟩
  · rintro ⟨x, u, E1, h1, xs, E2, h2, p⟩
    exact ⟨_, _, ⟨x, u, E1, h1, xs, E2, h2, rfl, rfl⟩, p⟩
def IT (Φ : Phi) (k : Ik) (w : List Nat) (es : List Ex) (E : En) (P : List D → En → Prop) : Prop :=
  match k with
  | .rng => EVs Φ es E fun xs E1 => ∃ its, items k (ds xs) = some its ∧ P its E1
  | .zip => EVs Φ es E fun xs E1 => ∃ its, items k (ds xs) = some its ∧ P its E1
  | _ => EVi Φ w es E fun xs E1 => ∃ its, items k (ds xs) = some its ∧ P its E1
def FL (Φ : Phi) (tg : Tg) (body : Ss) (its : List D) (E : En) (N : En → Prop) (R : Val → En → Prop) : Prop :=
  ∃ o, forL (fun x E => do
      let E ← bindT tg x E
      ex Φ body E) its E = some o ∧ (match o with | .nx E' => N E' | .rt x E' => R x E' | .rs _ _ => False)
theorem EX_for {tg k es body E N R} : EX Φ (.for_ tg k es body) E N R ↔ IT Φ k (wrS body ++ tgs tg) es E fun its E1 => FL Φ tg body its E1 N R := by
  cases k <;>
  · unfold EX IT FL
    simp only [EVs, EVi, ex, Option.bind_eq_bind, Option.bind_eq_some_iff, Prod.exists]
    constructor
    · rintro ⟨o, ⟨xs, E1, h1, its, h2, h3⟩, p⟩
      exact ⟨xs, E1, h1, its, h2, o, h3, p⟩
    · rintro ⟨xs, E1, h1, its, h2, o, h3, p⟩
      exact ⟨o, ⟨xs, E1, h1, its, h2, h3⟩, p⟩
theorem FL_nil {tg body E N R} : FL Φ tg body [] E N R ↔ N E := by unfold FL; simp [forL]
theorem FL_cons {tg body d its E N R} : FL Φ tg body (d :: its) E N R ↔ ∃ E1, bindT tg (shv d) E = some E1 ∧ EX Φ body E1 (fun E2 => FL Φ tg body its E2 N R) R := by
  unfold FL EX
  simp only [forL, Option.bind_eq_bind]
  cases bindT tg (shv d) E with
  | none => simp
  | some E1 =>
    simp only [Option.bind_some, Option.some.injEq, exists_eq_left']
    cases ex Φ body E1 with
    | none => simp
    | some o => cases o <;> simp

theorem FL_inv {tg body its E N R} (I : List D → List D → En → Prop) (h0 : I [] its E)
    (hs : ∀ a d b E, I a (d :: b) E → its = a ++ d :: b → ∃ E1, bindT tg (shv d) E = some E1 ∧ EX Φ body E1 (fun E2 => I (a ++ [d]) b E2) R)
    (hN : ∀ E, I its [] E → N E) : FL Φ tg body its E N R := by
  have key : ∀ (b a : List D) (E : En), its = a ++ b → I a b E → FL Φ tg body b E N R := by
    intro b
    induction b with
    | nil =>
      intro a E e h
      rw [List.append_nil] at e
      subst e
      exact FL_nil.mpr (hN E h)
    | cons d b ih =>
      intro a E e h
      obtain ⟨E1, h1, h2⟩ := hs a d b E h e
      exact FL_cons.mpr ⟨E1, h1, h2.imp (fun E2 h3 => ih (a ++ [d]) E2 (by rw [e]; simp) h3) fun _ _ z => z⟩
  exact key its [] E rfl h0

def CP (Φ : Phi) (shr : Bool) (elt : Ex) (tg : Tg) (cond : Ex) (its : List D) (E : En) (acc : List D) (P : List D → En → Prop) : Prop :=
  ∃ r E1, compL (fun x E => do
        let E ← bindT tg x (wipes (tgs tg) E)
        let (c, E) ← ev Φ cond E
        match c.1 with
        | .bl true => do
          let (y, E) ← ev Φ elt E
          let (y, E) := esc elt y E
          if plain y.1 || shr || decide (y.2 = .deep) then some (some y, E) else none
        | .bl false => some (none, E)
        | _ => none) its E acc = some (r, E1) ∧ P r E1
theorem EV_comp {shr elt tg k es cond E P} : EV Φ (.comp shr elt tg k es cond) E P ↔ IT Φ k (tgs tg ++ (wrx elt ++ wr cond)) es E fun its E1 => (its.length ≤ line ∧ keepable (tgs tg) E1 = true) ∧ CP Φ shr elt tg cond its E1 [] fun acc E2 => P (.lst acc, if shr && !plains acc then .top else .deep) (back (tgs tg) E1 E2) := by
  cases k <;>
  · unfold EV IT CP
    simp only [EVs, EVi, ev, Option.bind_eq_bind, Option.bind_eq_some_iff, Prod.exists]
    constructor
    · rintro ⟨d, w, E', ⟨xs, E1, h1, its, h2, h3⟩, p⟩
      split at h3
      · rename_i hc
        simp only [Option.bind_eq_some_iff, Prod.exists, Option.some.injEq, Prod.mk.injEq] at h3
        obtain ⟨acc, E2, h4, ⟨rfl, rfl⟩, rfl⟩ := h3
        exact ⟨xs, E1, h1, its, h2, hc, acc, E2, h4, p⟩
      · cases h3
    · rintro ⟨xs, E1, h1, its, h2, hc, acc, E2, h4, p⟩
      refine ⟨_, _, _, ⟨xs, E1, h1, its, h2, ?_⟩, p⟩
      rw [if_pos hc]
      simp only [Option.bind_eq_some_iff, Prod.exists, Option.some.injEq, Prod.mk.injEq]
      exact ⟨acc, E2, h4, ⟨rfl, rfl⟩, rfl⟩
theorem CP_nil {shr elt tg cond E acc P} : CP Φ shr elt tg cond [] E acc P ↔ P acc E := by unfold CP; simp only [compL]; exact ex2
theorem CP_cons {shr elt tg cond d its E acc P} (h : ∃ E1, bindT tg (shv d) (wipes (tgs tg) E) = some E1 ∧ EV Φ cond E1 fun c E2 => (c.1 = .bl true ∧ EV Φ elt E2 fun y E3 => (plain (esc elt y E3).1.1 || shr || decide ((esc elt y E3).1.2 = .deep)) = true ∧ CP Φ shr elt tg cond its (esc elt y E3).2 (acc ++ [(esc elt y E3).1.1]) P) ∨ (c.1 = .bl false ∧ CP Φ shr elt tg cond its E2 acc P)) :
    CP Φ shr elt tg cond (d :: its) E acc P := by
  obtain ⟨E1, h1, c, E2, h2, h3⟩ := h
  obtain ⟨cd, cw⟩ := c
  rcases h3 with ⟨rfl, y, E3, h4, h5, h6⟩ | ⟨rfl, h6⟩
  · unfold CP at h6 ⊢
    simp only [compL, h1, h2, Option.bind_eq_bind, Option.bind_some, h4]
    rw [if_pos h5]
    exact h6
  · unfold CP at h6 ⊢
    simp only [compL, h1, h2, Option.bind_eq_bind, Option.bind_some]
    exact h6
end
end BS

set_option Elab.async false
set_option linter.all false
set_option maxRecDepth 100000
set_option maxHeartbeats 2000000

namespace BS
open PySem L2

class U {α : Type} (a : α) : Type where
instance instU {α : Type} (a : α) : U a := ⟨⟩
namespace W
def EV (Φ : Phi) (e : Ex) (E : En) (P : Val → En → Prop) [U P] : Prop := BS.EV Φ e E P
def EVs (Φ : Phi) (e : List Ex) (E : En) (P : List Val → En → Prop) [U P] : Prop := BS.EVs Φ e E P
def EVi (Φ : Phi) (w : List Nat) (e : List Ex) (E : En) (P : List Val → En → Prop) [U P] : Prop := BS.EVi Φ w e E P
def EVa (Φ : Phi) (e : List Ex) (E : En) (P : List Ar → En → Prop) [U P] : Prop := BS.EVa Φ e E P
def EX (Φ : Phi) (s : Ss) (E : En) (N : En → Prop) (R : Val → En → Prop) [U N] [U R] : Prop := BS.EX Φ s E N R
def CL (Φ : Phi) (g : Nat) (vs : List Val) (P : Val → List (Option Val) → Prop) [U P] : Prop := BS.CL Φ g vs P
def GA (as : List Ar) (E : En) (P : List Val → En → Prop) [U P] : Prop := BS.GA as E P
def IT (Φ : Phi) (k : Ik) (w : List Nat) (es : List Ex) (E : En) (P : List D → En → Prop) [U P] : Prop := BS.IT Φ k w es E P
def FL (Φ : Phi) (tg : Tg) (body : Ss) (its : List D) (E : En) (N : En → Prop) (R : Val → En → Prop) [U N] [U R] : Prop := BS.FL Φ tg body its E N R
def CP (Φ : Phi) (shr : Bool) (elt : Ex) (tg : Tg) (cond : Ex) (its : List D) (E : En) (acc : List D) (P : List D → En → Prop) [U P] : Prop := BS.CP Φ shr elt tg cond its E acc P
end W

def GS (i : Nat) (E : En) (K : Val → Prop) [U K] : Prop := ∃ x, E[i]? = some (some x) ∧ K x
theorem GS_z {x : Val} {E : En} {K} : GS 0 (some x :: E) K ↔ K x := by simp [GS]
theorem GS_s {i : Nat} {a : Option Val} {E : En} {K} : GS (i + 1) (a :: E) K ↔ GS i E K := by simp [GS]

def OP {α : Type} (o : Option α) (K : α → Prop) [U K] : Prop := ∃ d, o = some d ∧ K d
theorem OP_some {α : Type} {d : α} {K} : OP (some d) K ↔ K d := by simp [OP]
theorem OP_ite {α : Type} {c : Prop} [Decidable c] {o : Option α} {K} : OP (if c then o else none) K ↔ c ∧ OP o K := by
  by_cases h : c <;> simp [OP, h]
theorem OP_map {α β : Type} {o : Option α} {f : α → β} {K} : OP (o.map f) K ↔ OP o fun x => K (f x) := by cases o <;> simp [OP]
theorem OP_of {α : Type} {o : Option α} {d : α} {K} (h : o = some d) (k : K d) : OP o K := ⟨d, h, k⟩

def PUT {α : Type} (E : α) (K : α → Prop) [U K] : Prop := K E
theorem PUT_def {α : Type} {E : α} {K : α → Prop} : PUT E K ↔ K E := Iff.rfl
def BR (d : D) (A B : Unit → Prop) [U A] [U B] : Prop := (d = .bl true ∧ A ()) ∨ (d = .bl false ∧ B ())
theorem BR_t {A B} : BR (.bl true) A B ↔ A () := by simp [BR]
theorem BR_f {A B} : BR (.bl false) A B ↔ B () := by simp [BR]
theorem BR_b {b : Bool} {A B} (h1 : b = true → A ()) (h2 : b = false → B ()) : BR (.bl b) A B := by
  cases b
  · exact BR_f.mpr (h2 rfl)
  · exact BR_t.mpr (h1 rfl)
theorem BR_d {p : Prop} [Decidable p] {A B} (h1 : p → A ()) (h2 : ¬p → B ()) : BR (.bl (decide p)) A B := BR_b (fun h => h1 (of_decide_eq_true h)) fun h => h2 (of_decide_eq_false h)
def BO (d : D) (K : Bool → Prop) [U K] : Prop := ∃ c, d = .bl c ∧ K c
theorem BO_b {c : Bool} {K} : BO (.bl c) K ↔ K c := by simp [BO]
def ESC (e : Ex) (x : Val) (E : En) (K : Val → En → Prop) [U K] : Prop := K (esc e x E).1 (esc e x E).2
def KESC (e : Ex) (x : Val) (E : En) (K : Val → En → Prop) [U K] : Prop := K (kesc e x E).1 (kesc e x E).2
def HOLD (w : List Nat) (e : Ex) (x : Val) (E : En) (K : Val → En → Prop) [U K] : Prop := K (hold w e x E).1 (hold w e x E).2
theorem ESC_np {e x E K} (h : isPl e = false) : ESC e x E K ↔ K x E := by unfold ESC esc; simp [h]
theorem KESC_np {e x E K} (h : isPl e = false) : KESC e x E K ↔ K x E := by unfold KESC kesc; simp [h]
theorem HOLD_np {w e x E K} (h : isPl e = false) : HOLD w e x E K ↔ K x E := by unfold HOLD hold esc; simp [h]

def shS : Nat → En → En
  | 0, some (d, _) :: E => some (d, .sh) :: E
  | 0, E => E
  | _, [] => []
  | i + 1, a :: E => a :: shS i E
theorem shS_z {d w} {E : En} : shS 0 (some (d, w) :: E) = some (d, .sh) :: E := rfl
theorem shS_s {i a} {E : En} : shS (i + 1) (a :: E) = a :: shS i E := rfl
theorem shRoot_var (i : Nat) (E : En) : shRoot (.var i) E = shS i E := by
  have key : ∀ (i : Nat) (E : En), (match E[i]? with | some (some (d, _)) => E.set i (some (d, Ow.sh)) | _ => E) = shS i E := by
    intro i
    induction i with
    | zero =>
      intro E
      cases E with
      | nil => rfl
      | cons a E =>
        cases a with
        | none => rfl
        | some x => obtain ⟨d, w⟩ := x; rfl
    | succ i ih =>
      intro E
      cases E with
      | nil => rfl
      | cons a E =>
        rw [shS_s, ← ih E]
        simp only [List.getElem?_cons_succ, List.set_cons_succ]
        cases E[i]? with
        | none => rfl
        | some x => cases x with
          | none => rfl
          | some x => obtain ⟨d, w⟩ := x; rfl
  exact key i E

def shD : Nat → En → En
  | 0, some (d, w) :: E => some (d, down d w) :: E
  | 0, E => E
  | _, [] => []
  | i + 1, a :: E => a :: shD i E
theorem shD_z {d w} {E : En} : shD 0 (some (d, w) :: E) = some (d, down d w) :: E := rfl
theorem shD_s {i a} {E : En} : shD (i + 1) (a :: E) = a :: shD i E := rfl
theorem shRoot_ix (a k : Ex) (E : En) : shRoot (.ix a k) E = shD (root a) E := by
  have key : ∀ (i : Nat) (E : En), (match E[i]? with | some (some (d, w)) => E.set i (some (d, down d w)) | _ => E) = shD i E := by
    intro i
    induction i with
    | zero =>
      intro E
      cases E with
      | nil => rfl
      | cons a E =>
        cases a with
        | none => rfl
        | some x => obtain ⟨d, w⟩ := x; rfl
    | succ i ih =>
      intro E
      cases E with
      | nil => rfl
      | cons a E =>
        rw [shD_s, ← ih E]
        simp only [List.getElem?_cons_succ, List.set_cons_succ]
        cases E[i]? with
        | none => rfl
        | some x => cases x with
          | none => rfl
          | some x => obtain ⟨d, w⟩ := x; rfl
  exact key (root a) E

def PL (b : Bool) (A B : Unit → Prop) [U A] [U B] : Prop := (b = true → A ()) ∧ (b = false → B ())
theorem PL_t {A B} : PL true A B ↔ A () := by simp [PL]
theorem PL_f {A B} : PL false A B ↔ B () := by simp [PL]
theorem ESC_var {i x E K} : ESC (.var i) x E K ↔ PL (plain x.1) (fun _ => K x E) fun _ => PUT (shS i E) fun E' => K (x.1, .sh) E' := by
  unfold ESC esc PUT
  cases h : plain x.1 <;> simp [PL, shRoot_var]
theorem ESC_ix {a k x E K} : ESC (.ix a k) x E K ↔ PL (!isPl a || plain x.1) (fun _ => K x E) fun _ => PUT (shD (root a) E) fun E' => K (x.1, .sh) E' := by
  unfold ESC esc PUT
  cases h : plain x.1 <;> cases h2 : isPl a <;> simp [PL, shRoot_ix, h2]
theorem KESC_var {i x E K} : KESC (.var i) x E K ↔ PL (kplain x.1) (fun _ => K x E) fun _ => PUT (shS i E) fun E' => K (x.1, .sh) E' := by
  unfold KESC kesc PUT
  cases h : kplain x.1 <;> simp [PL, shRoot_var]
theorem KESC_ix {a k x E K} : KESC (.ix a k) x E K ↔ PL (!isPl a || kplain x.1) (fun _ => K x E) fun _ => PUT (shD (root a) E) fun E' => K (x.1, .sh) E' := by
  unfold KESC kesc PUT
  cases h : kplain x.1 <;> cases h2 : isPl a <;> simp [PL, shRoot_ix, h2]
theorem HOLD_var {w i x E K} : HOLD w (.var i) x E K ↔ PL (kplain x.1 && !isDicD x.1 && !w.contains i) (fun _ => K x E) fun _ => ESC (.var i) x E K := by
  unfold HOLD hold ESC
  have e : (isPl (.var i) && kplain x.1 && !isDicD x.1 && !w.contains (root (.var i))) = (kplain x.1 && !isDicD x.1 && !w.contains i) := by simp
  rw [e]
  cases h : (kplain x.1 && !isDicD x.1 && !w.contains i)
  · rw [if_neg (by simp)]; rw [PL_f]
  · rw [if_pos rfl]; rw [PL_t]
theorem HOLD_ix {w a k x E K} : HOLD w (.ix a k) x E K ↔ PL (isPl a && kplain x.1 && !isDicD x.1 && !w.contains (root a)) (fun _ => K x E) fun _ => ESC (.ix a k) x E K := by
  unfold HOLD hold ESC
  have e : (isPl (.ix a k) && kplain x.1 && !isDicD x.1 && !w.contains (root (.ix a k))) = (isPl a && kplain x.1 && !isDicD x.1 && !w.contains (root a)) := by simp
  rw [e]
  cases h : (isPl a && kplain x.1 && !isDicD x.1 && !w.contains (root a))
  · rw [if_neg (by simp)]; rw [PL_f]
  · rw [if_pos rfl]; rw [PL_t]

def BRW (a : Ex) (w : List Nat) (x : Val) (K : Unit → Prop) [U K] : Prop := brw a w x = true ∧ K ()
theorem BRW_np {a w x K} (h : isPl a = false) : BRW a w x K ↔ K () := by simp [BRW, brw, h]
theorem BRW_var {i w x K} : BRW (.var i) w x K ↔ (plain x.1 || !w.contains i) = true ∧ K () := by simp [BRW, brw]
theorem BRW_ix {a k w x K} : BRW (.ix a k) w x K ↔ (!isPl a || plain x.1 || !w.contains (root a)) = true ∧ K () := by simp [BRW, brw]
section
variable {Φ : Phi}
theorem W_var {i E P} : W.EV Φ (.var i) E P ↔ GS i E fun x => P x E := EV_var
theorem W_shv {i E P} : W.EV Φ (.shv i) E P ↔ GS i E fun x => x.2 = .sh ∧ P x E := by
  show EV Φ (.shv i) E P ↔ ∃ x, E[i]? = some (some x) ∧ (x.2 = .sh ∧ P x E)
  unfold EV
  constructor
  · rintro ⟨x, E', h, p⟩
    simp only [ev] at h
    split at h
    · rename_i d hd
      simp only [Option.some.injEq, Prod.mk.injEq] at h
      obtain ⟨rfl, rfl⟩ := h
      exact ⟨(d, .sh), hd, rfl, p⟩
    · cases h
  · rintro ⟨⟨d, w⟩, h, hw, p⟩
    have hw : w = .sh := hw
    subst hw
    exact ⟨(d, .sh), E, by simp only [ev, h], p⟩
theorem W_op1 {o a E P} : W.EV Φ (.op1 o a) E P ↔ W.EV Φ a E fun x E1 => OP (app1 o x.1) fun d => P (d, .deep) E1 := EV_op1
theorem W_op2 {o a b E P} : W.EV Φ (.op2 o a b) E P ↔ W.EV Φ a E fun x E1 => BRW a (wr b) x fun _ => W.EV Φ b E1 fun y E2 => OP (app2 o x.1 y.1) fun d => P (d, .deep) E2 := EV_op2
theorem W_ix {a b E P} : W.EV Φ (.ix a b) E P ↔ W.EV Φ a E fun x E1 => BRW a (wr b) x fun _ => W.EV Φ b E1 fun y E2 => OP (item x.1 y.1) fun d => PUT (vl d (kid x.2)) fun z => P z E2 := EV_ix
theorem W_nil {E P} : W.EVs Φ [] E P ↔ P [] E := EVs_nil
theorem W_cons {e es E P} : W.EVs Φ (e :: es) E P ↔ W.EV Φ e E fun x E1 => ESC e x E1 fun x E2 => W.EVs Φ es E2 fun xs E3 => P (x :: xs) E3 := EVs_cons
theorem W_tup {es E P} : W.EV Φ (.tup es) E P ↔ W.EVs Φ es E fun xs E1 => PUT (mkTup xs) fun z => P z E1 := EV_tup
theorem W_lst {es E P} : W.EV Φ (.lst es) E P ↔ W.EVs Φ es E fun xs E1 => PUT (mkLst xs) fun z => P z E1 := EV_lst
theorem W_and {a b E P} : W.EV Φ (.and a b) E P ↔ W.EV Φ a E fun x E1 => BR x.1 (fun _ => W.EV Φ b E1 fun y E2 => BO y.1 fun c => P (.bl c, .deep) E2) fun _ => P (.bl false, .deep) E1 := EV_and
theorem W_or {a b E P} : W.EV Φ (.or a b) E P ↔ W.EV Φ a E fun x E1 => BR x.1 (fun _ => P (.bl true, .deep) E1) fun _ => W.EV Φ b E1 fun y E2 => BO y.1 fun c => P (.bl c, .deep) E2 := EV_or.trans ⟨fun h => h.imp fun _ _ k => k.symm, fun h => h.imp fun _ _ k => k.symm⟩
theorem W_ife {c a b E P} : W.EV Φ (.ife c a b) E P ↔ W.EV Φ c E fun x E1 => BR x.1 (fun _ => W.EV Φ a E1 fun y E2 => ESC a y E2 P) fun _ => W.EV Φ b E1 fun y E2 => ESC b y E2 P := EV_ife
theorem W_list {a E P} : W.EV Φ (.opP .list a) E P ↔ W.EV Φ a E fun x E1 => KESC a x E1 fun x E2 => OP (listD x) fun r => P r E2 := EV_list
theorem W_cat {a b E P} : W.EV Φ (.cat a b) E P ↔ W.EV Φ a E fun x E1 => KESC a x E1 fun x E2 => BRW a (wr b) x fun _ => W.EV Φ b E2 fun y E3 => KESC b y E3 fun y E4 => OP (catD x y) fun r => P r E4 := EV_cat
theorem W_sl {a b c E P} : W.EV Φ (.sl a b c) E P ↔ W.EV Φ a E fun x E1 => KESC a x E1 fun x E2 => BRW a (wr b ++ wr c) x fun _ => W.EV Φ b E2 fun l E3 => W.EV Φ c E3 fun h E4 => OP (sliceI b l.1) fun lo => OP (sliceI c h.1) fun hi => OP (slD lo hi x.1 x.2) fun r => P r E4 :=
  EV_sl.trans ⟨fun h => h.imp fun x E1 ⟨k0, k⟩ => ⟨k0, k.imp fun l E2 k => k.imp fun h E3 ⟨lo, hi, r, a, b, c, d⟩ => ⟨lo, a, hi, b, r, c, d⟩⟩, fun h => h.imp fun x E1 ⟨k0, k⟩ => ⟨k0, k.imp fun l E2 k => k.imp fun h E3 ⟨lo, a, hi, b, r, c, d⟩ => ⟨lo, hi, r, a, b, c, d⟩⟩⟩
theorem W_call {g es E P} : W.EV Φ (.call g es) E P ↔ W.EVa Φ es E fun as E1 => W.GA as E1 fun vs E2 => W.CL Φ g vs fun r os => PUT (scat as os E2) fun E3 => P r E3 := EV_call
theorem W_anil {E P} : W.EVa Φ [] E P ↔ P [] E := EVa_nil
theorem W_aio {i es E P} : W.EVa Φ (.io i :: es) E P ↔ GS i E fun x => W.EVa Φ es E fun xs E1 => P (.inr i :: xs) E1 := EVa_io
theorem W_acons {e es E P} (h : isIo e = false) : W.EVa Φ (e :: es) E P ↔ W.EV Φ e E fun x E1 => ESC e x E1 fun x E2 => W.EVa Φ es E2 fun xs E3 => P (.inl x :: xs) E3 := EVa_cons h
theorem W_gnil {E P} : W.GA [] E P ↔ P [] E := GA_nil
theorem W_ginl {x as E P} : W.GA (.inl x :: as) E P ↔ W.GA as E fun vs E2 => P (x :: vs) E2 := GA_inl
theorem W_ginr {i as E P} : W.GA (.inr i :: as) E P ↔ GS i E fun x => PUT (E.set i none) fun E' => W.GA as E' fun vs E2 => P (x :: vs) E2 := GA_inr
theorem scat_inr {i r o os E} : scat (.inr i :: r) (o :: os) E = scat r os (E.set i o) := rfl
theorem scat_ni {os E} : scat [] os E = E := by cases os <;> rfl
theorem scat_il {x r os E} : scat (.inl x :: r) os E = scat r os.tail E := by
  cases os with
  | nil => show E = scat r [] E; cases r with
    | nil => rfl
    | cons a r => cases a <;> rfl
  | cons o os => rfl

theorem W_skip {E N R} : W.EX Φ .skip E N R ↔ N E := EX_skip
theorem W_seq {a b E N R} : W.EX Φ (.seq a b) E N R ↔ W.EX Φ a E (fun E1 => W.EX Φ b E1 N R) R := EX_seq
theorem W_setv {i e E N R} : W.EX Φ (.set (.v i) e) E N R ↔ W.EV Φ e E fun x E1 => ESC e x E1 fun x E2 => PUT (E2.set i (some x)) N := EX_setv
theorem W_setT {is e E N R} : W.EX Φ (.set (.t is) e) E N R ↔ W.EV Φ e E fun x E1 => ESC e x E1 fun x E2 => OP (bindT (.t is) x E2) N := EX_setT
theorem W_expr {e E N R} : W.EX Φ (.expr e) E N R ↔ W.EV Φ e E fun _ E1 => N E1 := EX_expr
theorem W_ite {c a b E N R} : W.EX Φ (.ite c a b) E N R ↔ W.EV Φ c E fun x E1 => BR x.1 (fun _ => W.EX Φ a E1 N R) fun _ => W.EX Φ b E1 N R := EX_ite
theorem W_retn {E N R} : W.EX Φ .retn E N R ↔ R (.non, .deep) E := EX_retn
theorem W_retv {i E N R} : W.EX Φ (.ret (.var i)) E N R ↔ GS i E fun x => PL (plain x.1) (fun _ => R x E) fun _ => PUT (E.set i none) fun E' => R x E' := EX_retv.trans ⟨fun ⟨x, h, k⟩ => ⟨x, h, by cases h : plain x.1 <;> simp_all [PL, PUT]⟩, fun ⟨x, h, k⟩ => ⟨x, h, by cases h : plain x.1 <;> simp_all [PL, PUT]⟩⟩
def isVar : Ex → Bool
  | .var _ => true
  | _ => false
theorem W_ret {e E N R} (h : isVar e = false) : W.EX Φ (.ret e) E N R ↔ W.EV Φ e E fun x E1 => ESC e x E1 R := EX_ret (by intro i z; subst z; cases h)
theorem W_inil {w E P} : W.EVi Φ w [] E P ↔ P [] E := EVi_nil
theorem W_icons {w e es E P} : W.EVi Φ w (e :: es) E P ↔ W.EV Φ e E fun x E1 => HOLD w e x E1 fun x E2 => W.EVi Φ w es E2 fun xs E3 => P (x :: xs) E3 := EVi_cons
theorem W_for {tg k es body E N R} : W.EX Φ (.for_ tg k es body) E N R ↔ W.IT Φ k (wrS body ++ tgs tg) es E fun its E1 => W.FL Φ tg body its E1 N R := EX_for
theorem W_rng {w es E P} : W.IT Φ .rng w es E P ↔ W.EVs Φ es E fun xs E1 => OP (items .rng (ds xs)) fun its => P its E1 := Iff.rfl
theorem W_of {w es E P} : W.IT Φ .of w es E P ↔ W.EVi Φ w es E fun xs E1 => OP (items .of (ds xs)) fun its => P its E1 := Iff.rfl
theorem W_enu {w es E P} : W.IT Φ .enu w es E P ↔ W.EVi Φ w es E fun xs E1 => OP (items .enu (ds xs)) fun its => P its E1 := Iff.rfl
theorem W_keys {w es E P} : W.IT Φ .keys w es E P ↔ W.EVi Φ w es E fun xs E1 => OP (items .keys (ds xs)) fun its => P its E1 := Iff.rfl
theorem W_zip {w es E P} : W.IT Φ .zip w es E P ↔ W.EVs Φ es E fun xs E1 => OP (items .zip (ds xs)) fun its => P its E1 := Iff.rfl
theorem W_rev {w es E P} : W.IT Φ .rev w es E P ↔ W.EVi Φ w es E fun xs E1 => OP (items .rev (ds xs)) fun its => P its E1 := Iff.rfl
theorem W_comp {shr elt tg k es cond E P} : W.EV Φ (.comp shr elt tg k es cond) E P ↔ W.IT Φ k (tgs tg ++ (wrx elt ++ wr cond)) es E fun its E1 => (its.length ≤ line ∧ keepable (tgs tg) E1 = true) ∧ W.CP Φ shr elt tg cond its E1 [] fun acc E2 => PUT (back (tgs tg) E1 E2) fun E3 => P (.lst acc, if shr && !plains acc then .top else .deep) E3 := EV_comp
def CHG (i : Nat) (ks : List D) (own : Bool) (f : D → Option (D × D)) (E : En) (K : Val → En → Prop) [U K] : Prop := ∃ r E', chg i ks own f E = some (r, E') ∧ K r E'
theorem W_setIx {i k e E N R} : W.EX Φ (.setIx i k e) E N R ↔ W.EV Φ e E fun x E1 => ESC e x E1 fun x E2 => GS i E2 fun _ => W.EV Φ k E2 fun y E3 => CHG i [] (plain x.1 || decide (x.2 = .deep)) (setD y.1 x.1) E3 fun _ E4 => N E4 := EX_setIx

theorem CHG_nil {i own f E K} : CHG i [] own f E K ↔ GS i E fun z => z.2 ≠ .sh ∧ OP (f z.1) fun p => PUT (E.set i (some (p.1, if own then z.2 else .top))) fun E' => K (vl p.2 (kid z.2)) E' := by
  unfold CHG GS OP PUT chg
  cases hE : E[i]? with
  | none => simp
  | some o =>
    cases o with
    | none => simp
    | some z =>
      obtain ⟨d, w⟩ := z
      simp only [Option.some.injEq, exists_eq_left', List.isEmpty_nil, if_true]
      by_cases hw : w = .sh
      · simp [hw]
      · simp only [if_neg hw, ne_eq, hw, not_false_eq_true, true_and]
        cases f d with
        | none => simp
        | some p =>
          constructor
          · rintro ⟨r, E', h, k⟩
            cases h
            exact ⟨_, rfl, k⟩
          · rintro ⟨p', h, k⟩
            cases h
            exact ⟨_, _, rfl, k⟩
end
end BS

set_option Elab.async false
set_option linter.all false
set_option maxRecDepth 100000
set_option maxHeartbeats 2000000

namespace BS
open PySem L2
def isLstD : D → Bool
  | .lst _ => true
  | _ => false
section
variable {Φ : Phi}
theorem W_int {i E P} : W.EV Φ (.int i) E P ↔ P (.int i, .deep) E := EV_int
theorem W_str {i E P} : W.EV Φ (.str i) E P ↔ P (.str i, .deep) E := EV_str
theorem W_bl {i E P} : W.EV Φ (.bl i) E P ↔ P (.bl i, .deep) E := EV_bl
theorem W_non {E P} : W.EV Φ .non E P ↔ P (.non, .deep) E := EV_non
theorem W_glo {d E P} : W.EV Φ (.glo d) E P ↔ P (d, .deep) E := EV_glo
theorem W_dct0 {t E P} : W.EV Φ (.dct0 t) E P ↔ P (.dic t [], .deep) E := by
  show EV Φ (.dct0 t) E P ↔ _
  unfold EV; simp only [ev]; exact ex2
theorem W_inG {neg e xs E P} : W.EV Φ (.inG neg e xs) E P ↔ W.EV Φ e E fun x E1 => OP (match x.1 with | .str s => some (if neg then !xs.contains s else xs.contains s) | _ => none) fun b => P (.bl b, .deep) E1 := by
  show EV Φ (.inG neg e xs) E P ↔ EV Φ e E _
  unfold EV OP
  simp only [ev, Option.bind_eq_bind, Option.bind_eq_some_iff, Prod.exists]
  constructor
  · rintro ⟨d, w, E', ⟨x, w', E1, h1, h2⟩, p⟩
    refine ⟨x, w', E1, h1, ?_⟩
    cases x <;> cases h2
    exact ⟨_, rfl, p⟩
  · rintro ⟨x, w', E1, h1, b, h2, p⟩
    cases x <;> cases h2
    exact ⟨_, _, _, ⟨_, _, _, h1, rfl⟩, p⟩
theorem W_mut {m i es E P} : W.EV Φ (.mut m i es) E P ↔ GS i E fun z => isLstD z.1 = true ∧ W.EVs Φ es E fun xs E1 => CHG i [] (allDeep xs) (mutD m (ds xs)) E1 fun r E2 => P r E2 := by
  show EV Φ (.mut m i es) E P ↔ _
  unfold EV GS
  simp only [ev]
  cases hE : E[i]? with
  | none => simp
  | some o =>
    cases o with
    | none => simp
    | some z =>
      obtain ⟨d, w⟩ := z
      simp only [Option.some.injEq, exists_eq_left']
      cases d with
      | lst l =>
        simp only [isLstD, true_and]
        constructor
        · rintro ⟨x, E', h, p⟩
          rw [Option.bind_eq_bind, Option.bind_eq_some_iff] at h
          obtain ⟨⟨xs, E1⟩, h1, h2⟩ := h
          exact ⟨xs, E1, h1, x, E', h2, p⟩
        · rintro ⟨xs, E1, h1, x, E', h2, p⟩
          exact ⟨x, E', by rw [Option.bind_eq_bind, Option.bind_eq_some_iff]; exact ⟨(xs, E1), h1, h2⟩, p⟩
      | _ => simp [isLstD]
end

theorem item_lst' {xs : List D} {i : Int} : item (.lst xs) (.int i) = atI xs i := rfl
theorem item_tup' {xs : List D} {i : Int} : item (.tup xs) (.int i) = atI xs i := rfl
theorem item_scr' {ns : List Int} {i : Int} : item (.scr ns) (.int i) = (atI ns i).map .int := rfl
theorem item_str' {s : Str} {i : Int} : item (.str s) (.int i) = (atI s.cps.toList i).map fun c => .str ⟨#[c]⟩ := rfl
theorem item_dic {t kvs k} : item (.dic t kvs) k = if keyOk t k = true then dget kvs k else none := rfl
theorem atI_lit {α : Type} {xs : List α} {n : Nat} : atI xs (no_index (OfNat.ofNat n)) = xs[n]? := by
  show atI xs (n : Int) = _
  cases h : xs[n]? with
  | none =>
    have := List.getElem?_eq_none_iff.mp h
    unfold atI ixN
    rw [if_pos (by omega), if_neg (by omega)]
    rfl
  | some v => exact L2.atI_nat h
theorem atI_of {α : Type} {xs : List α} {i : Int} (h0 : 0 ≤ i) (h1 : i < xs.length) : atI xs i = some (xs[i.toNat]'(by omega)) := by
  have e : i = (i.toNat : Int) := by omega
  conv => lhs; rw [e]
  exact L2.atI_nat (List.getElem?_eq_getElem (by omega))
theorem OP_at {α : Type} {xs : List α} {i : Int} {K : α → Prop} (h0 : 0 ≤ i) (h1 : i < xs.length) (k : ∀ h : i.toNat < xs.length, K xs[i.toNat]) : OP (atI xs i) K := OP_of (atI_of h0 h1) (k _)
theorem a2_add {i j : Int} : app2 .add (.int i) (.int j) = some (.int (i + j)) := rfl
theorem a2_adds {i j : Str} : app2 .add (.str i) (.str j) = if i.length + j.length ≤ line then some (.str (i ++ j)) else none := rfl
theorem a2_sub {i j : Int} : app2 .sub (.int i) (.int j) = some (.int (i - j)) := rfl
theorem a2_mul {i j : Int} : app2 .mul (.int i) (.int j) = if (-(2 ^ 64) < i ∧ i < 2 ^ 64) ∨ (-(2 ^ 64) < j ∧ j < 2 ^ 64) then some (.int (i * j)) else none := rfl
theorem a2_muls {s : Str} {k : Int} : app2 .mul (.str s) (.int k) = if 0 ≤ k ∧ k < 2 ^ 62 ∧ s.length * k.toNat ≤ line then some (.str (srep s k)) else none := rfl
theorem a2_fdiv {i j : Int} : app2 .fdiv (.int i) (.int j) = if 0 < j ∧ j < 1073741824 then some (.int (i / j)) else none := rfl
theorem a2_mod {i j : Int} : app2 .mod (.int i) (.int j) = if 0 < j then some (.int (i % j)) else none := rfl
theorem a2_shl {i j : Int} : app2 .shl (.int i) (.int j) = if 0 ≤ j ∧ j ≤ 1000000 ∧ i.natAbs < 2 ^ 64 then some (.int (i * 2 ^ j.toNat)) else none := rfl
theorem a2_shr {i j : Int} : app2 .shr (.int i) (.int j) = if 0 ≤ j then some (.int (i / 2 ^ j.toNat)) else none := rfl
theorem a2_band {i : Int} : app2 .band (.int i) (.int 1) = some (.int (i % 2)) := rfl
theorem a2_bor {i j : Int} : app2 .bor (.int i) (.int j) = if 0 ≤ i ∧ 0 ≤ j then some (.int ((i.toNat ||| j.toNat : Nat) : Int)) else none := rfl
theorem a2_pow {i j : Int} : app2 .pow (.int i) (.int j) = if 0 ≤ j ∧ j ≤ 1000000 ∧ i.natAbs < 2 ^ 64 then some (.int (i ^ j.toNat)) else none := rfl
theorem a2_lt {i j : Int} : app2 .lt (.int i) (.int j) = some (.bl (decide (i < j))) := rfl
theorem a2_le {i j : Int} : app2 .le (.int i) (.int j) = some (.bl (decide (i ≤ j))) := rfl
theorem a2_gt {i j : Int} : app2 .gt (.int i) (.int j) = some (.bl (decide (j < i))) := rfl
theorem a2_ge {i j : Int} : app2 .ge (.int i) (.int j) = some (.bl (decide (j ≤ i))) := rfl
theorem deq_int {i j : Int} : deq (.int i) (.int j) = decide (i = j) := by
  by_cases h : i = j <;> simp [deq, h]
theorem deq_str {i j : Str} : deq (.str i) (.str j) = decide (i = j) := rfl
theorem deq_bl {i j : Bool} : deq (.bl i) (.bl j) = (i == j) := rfl
theorem a2_eq {a b : D} : app2 .eq a b = if (shp 30 a && shp 30 b) = true then some (.bl (deq a b)) else none := rfl
theorem a2_ne {a b : D} : app2 .ne a b = if (shp 30 a && shp 30 b) = true then some (.bl (!deq a b)) else none := rfl
theorem a2_eqi {i j : Int} : app2 .eq (.int i) (.int j) = some (.bl (decide (i = j))) := by rw [a2_eq, deq_int]; rfl
theorem a2_nei {i j : Int} : app2 .ne (.int i) (.int j) = some (.bl (!decide (i = j))) := by rw [a2_ne, deq_int]; rfl
theorem a2_max {i j : Int} : app2 .max (.int i) (.int j) = some (.int (max i j)) := by
  show some (D.int (if j > i then j else i)) = _
  congr 2
  rw [Int.max_def]
  split <;> split <;> omega
theorem a2_min {i j : Int} : app2 .min (.int i) (.int j) = some (.int (min i j)) := by
  show some (D.int (if j < i then j else i)) = _
  congr 2
  rw [Int.min_def]
  split <;> split <;> omega
theorem a2_inl {a : D} {xs : List D} : app2 .In a (.lst xs) = if (scalar a && scalars xs || shp 30 a && shps 29 xs) = true then some (.bl (xs.any fun y => deq y a)) else none := by cases a <;> rfl
theorem a2_int {a : D} {xs : List D} : app2 .In a (.tup xs) = if (scalar a && scalars xs) = true then some (.bl (xs.any fun y => deq y a)) else none := by cases a <;> rfl
theorem a2_nil {a : D} {xs : List D} : app2 .NotIn a (.lst xs) = if (scalar a && scalars xs || shp 30 a && shps 29 xs) = true then some (.bl (!xs.any fun y => deq y a)) else none := by cases a <;> rfl
theorem a2_nit {a : D} {xs : List D} : app2 .NotIn a (.tup xs) = if (scalar a && scalars xs) = true then some (.bl (!xs.any fun y => deq y a)) else none := by cases a <;> rfl
theorem a2_ind {a : D} {t kvs} : app2 .In a (.dic t kvs) = if keyOk t a = true then some (.bl (dhas kvs a)) else none := by cases a <;> rfl
theorem a2_nid {a : D} {t kvs} : app2 .NotIn a (.dic t kvs) = if keyOk t a = true then some (.bl (!dhas kvs a)) else none := by cases a <;> rfl
theorem a1_not {b : Bool} : app1 .not (.bl b) = some (.bl (!b)) := rfl
theorem a1_neg {i : Int} : app1 .neg (.int i) = some (.int (-i)) := rfl
theorem a1_len {d : D} : app1 .len d = (lenD d).map .int := rfl
theorem a1_int {i : Int} : app1 .int (.int i) = some (.int i) := rfl
theorem a1_intb {b : Bool} : app1 .int (.bl b) = some (.int (if b = true then 1 else 0)) := rfl
theorem a1_str {i : Int} : app1 .str (.int i) = if i.natAbs.log2 < 1920 then some (.str (toString i)) else none := rfl
theorem a1_abs {i : Int} : app1 .abs (.int i) = some (.int (if i < 0 then -i else i)) := rfl
theorem a1_isBt {c : Bool} : app1 (.isB true) (.bl c) = some (.bl c) := by cases c <;> rfl
theorem a1_isBf {c : Bool} : app1 (.isB false) (.bl c) = some (.bl (!c)) := by cases c <;> rfl
theorem a1_isBn {k} : app1 (.isB k) .non = some (.bl false) := rfl
theorem a1_isBi {k i} : app1 (.isB k) (.int i) = some (.bl false) := rfl
theorem a1_isBs {k i} : app1 (.isB k) (.str i) = some (.bl false) := rfl
theorem a1_isBl {k i} : app1 (.isB k) (.lst i) = some (.bl false) := rfl
theorem a1_isN {d : D} : app1 .isN d = some (.bl (isNon d)) := by cases d <;> rfl
theorem a1_isNN {d : D} : app1 .isNN d = some (.bl (!isNon d)) := by cases d <;> rfl
def isiOk : D → Bool
  | .fn _ => false
  | .dic true _ => false
  | .scr _ => false
  | _ => true
theorem a1_isi {t d} : app1 (.isi t) d = if isiOk d = true then some (.bl (tyOf t d)) else none := by
  cases d <;> try rfl
  case dic t' kvs => cases t' <;> rfl
theorem len_str {s : Str} : lenD (.str s) = some (s.length : Int) := rfl
theorem len_lst {s : List D} : lenD (.lst s) = some (s.length : Int) := rfl
theorem len_tup {s : List D} : lenD (.tup s) = some (s.length : Int) := rfl
theorem len_scr {s : List Int} : lenD (.scr s) = some (s.length : Int) := rfl
theorem len_dic {kvs : List (D × D)} : lenD (.dic false kvs) = some (kvs.length : Int) := rfl
theorem setD_l {i : Int} {v : D} {xs : List D} : setD (.int i) v (.lst xs) = (ixN xs.length i).map fun j => (.lst (xs.set j v), .non) := by
  show ((ixN xs.length i).map fun j => xs.set j v).map _ = _
  rw [Option.map_map]
  rfl
theorem setD_d {k v : D} {t : Bool} {kvs : List (D × D)} : setD k v (.dic t kvs) = if kvs.length < line ∧ keyOk t k = true then some (.dic t (dput kvs k v), .non) else none := rfl
theorem mut_app {x : D} {xs : List D} : mutD .append [x] (.lst xs) = if xs.length < line then some (.lst (xs ++ [x]), .non) else none := rfl
theorem mut_ext {ys xs : List D} : mutD .extend [.lst ys] (.lst xs) = if xs.length + ys.length ≤ line then some (.lst (xs ++ ys), .non) else none := rfl
theorem mut_ins {i : Int} {x : D} {xs : List D} : mutD .insert [.int i, x] (.lst xs) = if xs.length < line ∧ 0 ≤ i ∧ i < 2 ^ 63 then some (.lst (xs.take i.toNat ++ [x] ++ xs.drop i.toNat), .non) else none := rfl
theorem ixN_lit {m n : Nat} : ixN m (no_index (OfNat.ofNat n)) = if n < m then some n else none := by
  show ixN m (n : Int) = _
  unfold ixN
  rw [if_pos (by omega)]
  by_cases h : n < m
  · rw [if_pos (by omega), if_pos h]; rfl
  · rw [if_neg (by omega), if_neg h]
theorem it_of {xs : List D} : items .of [.lst xs] = some xs := rfl
theorem it_oft {xs : List D} : items .of [.tup xs] = some xs := rfl
theorem it_r1 {n : Int} : items .rng [.int n] = if inB n = true then some (rng 0 1 0 n.toNat) else none := rfl
theorem it_r2 {lo hi : Int} : items .rng [.int lo, .int hi] = if (inB lo && inB hi) = true then some (rng lo 1 0 (hi - lo).toNat) else none := rfl
theorem it_r3 {lo hi c : Int} : items .rng [.int lo, .int hi, .int c] = if 0 < c then (if (inB lo && inB hi && decide (0 < c) && decide (c < 1073741824)) = true then some (rng lo c 0 ((hi - lo + c - 1) / c).toNat) else none) else (if (inB lo && inB hi && decide (c = -1)) = true then some (rng lo c 0 (lo - hi).toNat) else none) := rfl
theorem it_enu {xs : List D} : items .enu [.lst xs] = some (enum0 0 xs) := rfl
theorem it_zip {xs ys : List D} : items .zip [.lst xs, .lst ys] = some (zip0 xs ys) := rfl
theorem it_rev {xs : List D} : items .rev [.lst xs] = some xs.reverse := rfl
theorem it_keys {kvs} : items .keys [.dic false kvs] = if intKeys kvs = true then some (kvs.map (·.1)) else none := rfl
theorem it_keysl {xs : List D} : items .keys [.lst xs] = some xs := rfl
theorem it_keyst {xs : List D} : items .keys [.tup xs] = some xs := rfl
theorem inB_iff {i : Int} : inB i = true ↔ -(2 ^ 62) ≤ i ∧ i < 2 ^ 62 := by simp [inB]
theorem ds_nil : ds [] = [] := rfl
theorem ds_cons {x : Val} {xs} : ds (x :: xs) = x.1 :: ds xs := rfl
theorem vl_t {d w} (h : plain d = true) : vl d w = (d, .deep) := by simp [vl, h]
theorem vl_f {d w} (h : plain d = false) : vl d w = (d, w) := by simp [vl, h]
theorem listD_l {xs w} : listD (.lst xs, w) = some (newLst xs w) := rfl
theorem listD_t {xs w} : listD (.tup xs, w) = some (newLst xs w) := rfl
theorem catD_l {xs ys w u} : catD (.lst xs, w) (.lst ys, u) = if xs.length + ys.length ≤ line ∧ ((w = .deep ∧ u = .deep) ∨ ((w ≠ .deep ∨ plains xs = true) ∧ (u ≠ .deep ∨ plains ys = true))) then some (newLst (xs ++ ys) (if w = .deep ∧ u = .deep then .deep else .sh)) else none := rfl
theorem newLst_deep {xs} : newLst xs .deep = (.lst xs, .deep) := by unfold newLst; split <;> rfl
theorem bind_t {is : List Nat} {xs : List D} {w : Ow} {E : En} : bindT (.t is) (.tup xs, w) E = if is.length = xs.length then binds is xs (kid w) E else none := rfl
theorem binds_nil {w : Ow} {E : En} : binds [] [] w E = some E := rfl
theorem binds_cons {i is d ds w} {E : En} : binds (i :: is) (d :: ds) w E = binds is ds w (E.set i (some (vl d w))) := rfl
theorem bind_l {is : List Nat} {xs : List D} {w : Ow} {E : En} : bindT (.t is) (.lst xs, w) E = if is.length = xs.length then binds is xs (kid w) E else none := rfl
theorem bind_v {i : Nat} {x : Val} {E : En} : bindT (.v i) x E = some (E.set i (some x)) := rfl
end BS

set_option Elab.async false
set_option linter.all false
set_option maxRecDepth 100000
set_option maxHeartbeats 2000000
namespace BS
open PySem L2
theorem ESC_int { i x E K} : ESC (.int i) x E K ↔ K x E := ESC_np rfl
theorem KESC_int { i x E K} : KESC (.int i) x E K ↔ K x E := KESC_np rfl
theorem HOLD_int {w  i x E K} : HOLD w (.int i) x E K ↔ K x E := HOLD_np rfl
theorem BRW_int {i w x K} : BRW (.int i) w x K ↔ K () := BRW_np rfl
theorem Wac_int {Φ : Phi} {i r E P} : W.EVa Φ ((.int i) :: r) E P ↔ W.EV Φ (.int i) E fun x E1 => ESC (.int i) x E1 fun x E2 => W.EVa Φ r E2 fun xs E3 => P (.inl x :: xs) E3 := W_acons rfl
theorem Wret_int {Φ : Phi} {i E N R} : W.EX Φ (.ret (.int i)) E N R ↔ W.EV Φ (.int i) E fun x E1 => ESC (.int i) x E1 R := W_ret rfl
theorem slI_int {i} {q0 : Int} : sliceI (.int i) (.int q0) = some (some q0) := rfl
theorem isPl_int {i} : isPl (.int i) = false := rfl
theorem ESC_shv { i x E K} : ESC (.shv i) x E K ↔ K x E := ESC_np rfl
theorem KESC_shv { i x E K} : KESC (.shv i) x E K ↔ K x E := KESC_np rfl
theorem HOLD_shv {w  i x E K} : HOLD w (.shv i) x E K ↔ K x E := HOLD_np rfl
theorem BRW_shv {i w x K} : BRW (.shv i) w x K ↔ K () := BRW_np rfl
theorem Wac_shv {Φ : Phi} {i r E P} : W.EVa Φ ((.shv i) :: r) E P ↔ W.EV Φ (.shv i) E fun x E1 => ESC (.shv i) x E1 fun x E2 => W.EVa Φ r E2 fun xs E3 => P (.inl x :: xs) E3 := W_acons rfl
theorem Wret_shv {Φ : Phi} {i E N R} : W.EX Φ (.ret (.shv i)) E N R ↔ W.EV Φ (.shv i) E fun x E1 => ESC (.shv i) x E1 R := W_ret rfl
theorem slI_shv {i} {q0 : Int} : sliceI (.shv i) (.int q0) = some (some q0) := rfl
theorem isPl_shv {i} : isPl (.shv i) = false := rfl
theorem ESC_shp { i x E K} : ESC (.shp i) x E K ↔ K x E := ESC_np rfl
theorem KESC_shp { i x E K} : KESC (.shp i) x E K ↔ K x E := KESC_np rfl
theorem HOLD_shp {w  i x E K} : HOLD w (.shp i) x E K ↔ K x E := HOLD_np rfl
theorem BRW_shp {i w x K} : BRW (.shp i) w x K ↔ K () := BRW_np rfl
theorem Wac_shp {Φ : Phi} {i r E P} : W.EVa Φ ((.shp i) :: r) E P ↔ W.EV Φ (.shp i) E fun x E1 => ESC (.shp i) x E1 fun x E2 => W.EVa Φ r E2 fun xs E3 => P (.inl x :: xs) E3 := W_acons rfl
theorem Wret_shp {Φ : Phi} {i E N R} : W.EX Φ (.ret (.shp i)) E N R ↔ W.EV Φ (.shp i) E fun x E1 => ESC (.shp i) x E1 R := W_ret rfl
theorem slI_shp {i} {q0 : Int} : sliceI (.shp i) (.int q0) = some (some q0) := rfl
theorem isPl_shp {i} : isPl (.shp i) = false := rfl
theorem ESC_str { s0 x E K} : ESC (.str s0) x E K ↔ K x E := ESC_np rfl
theorem KESC_str { s0 x E K} : KESC (.str s0) x E K ↔ K x E := KESC_np rfl
theorem HOLD_str {w  s0 x E K} : HOLD w (.str s0) x E K ↔ K x E := HOLD_np rfl
theorem BRW_str {s0 w x K} : BRW (.str s0) w x K ↔ K () := BRW_np rfl
theorem Wac_str {Φ : Phi} {s0 r E P} : W.EVa Φ ((.str s0) :: r) E P ↔ W.EV Φ (.str s0) E fun x E1 => ESC (.str s0) x E1 fun x E2 => W.EVa Φ r E2 fun xs E3 => P (.inl x :: xs) E3 := W_acons rfl
theorem Wret_str {Φ : Phi} {s0 E N R} : W.EX Φ (.ret (.str s0)) E N R ↔ W.EV Φ (.str s0) E fun x E1 => ESC (.str s0) x E1 R := W_ret rfl
theorem slI_str {s0} {q0 : Int} : sliceI (.str s0) (.int q0) = some (some q0) := rfl
theorem isPl_str {s0} : isPl (.str s0) = false := rfl
theorem ESC_bl { b x E K} : ESC (.bl b) x E K ↔ K x E := ESC_np rfl
theorem KESC_bl { b x E K} : KESC (.bl b) x E K ↔ K x E := KESC_np rfl
theorem HOLD_bl {w  b x E K} : HOLD w (.bl b) x E K ↔ K x E := HOLD_np rfl
theorem BRW_bl {b w x K} : BRW (.bl b) w x K ↔ K () := BRW_np rfl
theorem Wac_bl {Φ : Phi} {b r E P} : W.EVa Φ ((.bl b) :: r) E P ↔ W.EV Φ (.bl b) E fun x E1 => ESC (.bl b) x E1 fun x E2 => W.EVa Φ r E2 fun xs E3 => P (.inl x :: xs) E3 := W_acons rfl
theorem Wret_bl {Φ : Phi} {b E N R} : W.EX Φ (.ret (.bl b)) E N R ↔ W.EV Φ (.bl b) E fun x E1 => ESC (.bl b) x E1 R := W_ret rfl
theorem slI_bl {b} {q0 : Int} : sliceI (.bl b) (.int q0) = some (some q0) := rfl
theorem isPl_bl {b} : isPl (.bl b) = false := rfl
theorem ESC_non {  x E K} : ESC .non x E K ↔ K x E := ESC_np rfl
theorem KESC_non {  x E K} : KESC .non x E K ↔ K x E := KESC_np rfl
theorem HOLD_non {w   x E K} : HOLD w .non x E K ↔ K x E := HOLD_np rfl
theorem BRW_non { w x K} : BRW .non w x K ↔ K () := BRW_np rfl
theorem Wac_non {Φ : Phi} { r E P} : W.EVa Φ (.non :: r) E P ↔ W.EV Φ .non E fun x E1 => ESC .non x E1 fun x E2 => W.EVa Φ r E2 fun xs E3 => P (.inl x :: xs) E3 := W_acons rfl
theorem Wret_non {Φ : Phi} { E N R} : W.EX Φ (.ret .non) E N R ↔ W.EV Φ .non E fun x E1 => ESC .non x E1 R := W_ret rfl
theorem isPl_non  : isPl .non = false := rfl
theorem ESC_glo { d x E K} : ESC (.glo d) x E K ↔ K x E := ESC_np rfl
theorem KESC_glo { d x E K} : KESC (.glo d) x E K ↔ K x E := KESC_np rfl
theorem HOLD_glo {w  d x E K} : HOLD w (.glo d) x E K ↔ K x E := HOLD_np rfl
theorem BRW_glo {d w x K} : BRW (.glo d) w x K ↔ K () := BRW_np rfl
theorem Wac_glo {Φ : Phi} {d r E P} : W.EVa Φ ((.glo d) :: r) E P ↔ W.EV Φ (.glo d) E fun x E1 => ESC (.glo d) x E1 fun x E2 => W.EVa Φ r E2 fun xs E3 => P (.inl x :: xs) E3 := W_acons rfl
theorem Wret_glo {Φ : Phi} {d E N R} : W.EX Φ (.ret (.glo d)) E N R ↔ W.EV Φ (.glo d) E fun x E1 => ESC (.glo d) x E1 R := W_ret rfl
theorem slI_glo {d} {q0 : Int} : sliceI (.glo d) (.int q0) = some (some q0) := rfl
theorem isPl_glo {d} : isPl (.glo d) = false := rfl
theorem ESC_io { i x E K} : ESC (.io i) x E K ↔ K x E := ESC_np rfl
theorem KESC_io { i x E K} : KESC (.io i) x E K ↔ K x E := KESC_np rfl
theorem HOLD_io {w  i x E K} : HOLD w (.io i) x E K ↔ K x E := HOLD_np rfl
theorem BRW_io {i w x K} : BRW (.io i) w x K ↔ K () := BRW_np rfl
theorem Wret_io {Φ : Phi} {i E N R} : W.EX Φ (.ret (.io i)) E N R ↔ W.EV Φ (.io i) E fun x E1 => ESC (.io i) x E1 R := W_ret rfl
theorem slI_io {i} {q0 : Int} : sliceI (.io i) (.int q0) = some (some q0) := rfl
theorem isPl_io {i} : isPl (.io i) = false := rfl
theorem ESC_mv { i x E K} : ESC (.mv i) x E K ↔ K x E := ESC_np rfl
theorem KESC_mv { i x E K} : KESC (.mv i) x E K ↔ K x E := KESC_np rfl
theorem HOLD_mv {w  i x E K} : HOLD w (.mv i) x E K ↔ K x E := HOLD_np rfl
theorem BRW_mv {i w x K} : BRW (.mv i) w x K ↔ K () := BRW_np rfl
theorem Wac_mv {Φ : Phi} {i r E P} : W.EVa Φ ((.mv i) :: r) E P ↔ W.EV Φ (.mv i) E fun x E1 => ESC (.mv i) x E1 fun x E2 => W.EVa Φ r E2 fun xs E3 => P (.inl x :: xs) E3 := W_acons rfl
theorem Wret_mv {Φ : Phi} {i E N R} : W.EX Φ (.ret (.mv i)) E N R ↔ W.EV Φ (.mv i) E fun x E1 => ESC (.mv i) x E1 R := W_ret rfl
theorem slI_mv {i} {q0 : Int} : sliceI (.mv i) (.int q0) = some (some q0) := rfl
theorem isPl_mv {i} : isPl (.mv i) = false := rfl
theorem ESC_sl { a b c x E K} : ESC (.sl a b c) x E K ↔ K x E := ESC_np rfl
theorem KESC_sl { a b c x E K} : KESC (.sl a b c) x E K ↔ K x E := KESC_np rfl
theorem HOLD_sl {w  a b c x E K} : HOLD w (.sl a b c) x E K ↔ K x E := HOLD_np rfl
theorem BRW_sl {a b c w x K} : BRW (.sl a b c) w x K ↔ K () := BRW_np rfl
theorem Wac_sl {Φ : Phi} {a b c r E P} : W.EVa Φ ((.sl a b c) :: r) E P ↔ W.EV Φ (.sl a b c) E fun x E1 => ESC (.sl a b c) x E1 fun x E2 => W.EVa Φ r E2 fun xs E3 => P (.inl x :: xs) E3 := W_acons rfl
theorem Wret_sl {Φ : Phi} {a b c E N R} : W.EX Φ (.ret (.sl a b c)) E N R ↔ W.EV Φ (.sl a b c) E fun x E1 => ESC (.sl a b c) x E1 R := W_ret rfl
theorem slI_sl {a b c} {q0 : Int} : sliceI (.sl a b c) (.int q0) = some (some q0) := rfl
theorem isPl_sl {a b c} : isPl (.sl a b c) = false := rfl
theorem ESC_op1 { o a x E K} : ESC (.op1 o a) x E K ↔ K x E := ESC_np rfl
theorem KESC_op1 { o a x E K} : KESC (.op1 o a) x E K ↔ K x E := KESC_np rfl
theorem HOLD_op1 {w  o a x E K} : HOLD w (.op1 o a) x E K ↔ K x E := HOLD_np rfl
theorem BRW_op1 {o a w x K} : BRW (.op1 o a) w x K ↔ K () := BRW_np rfl
theorem Wac_op1 {Φ : Phi} {o a r E P} : W.EVa Φ ((.op1 o a) :: r) E P ↔ W.EV Φ (.op1 o a) E fun x E1 => ESC (.op1 o a) x E1 fun x E2 => W.EVa Φ r E2 fun xs E3 => P (.inl x :: xs) E3 := W_acons rfl
theorem Wret_op1 {Φ : Phi} {o a E N R} : W.EX Φ (.ret (.op1 o a)) E N R ↔ W.EV Φ (.op1 o a) E fun x E1 => ESC (.op1 o a) x E1 R := W_ret rfl
theorem slI_op1 {o a} {q0 : Int} : sliceI (.op1 o a) (.int q0) = some (some q0) := rfl
theorem isPl_op1 {o a} : isPl (.op1 o a) = false := rfl
theorem ESC_op2 { o a b x E K} : ESC (.op2 o a b) x E K ↔ K x E := ESC_np rfl
theorem KESC_op2 { o a b x E K} : KESC (.op2 o a b) x E K ↔ K x E := KESC_np rfl
theorem HOLD_op2 {w  o a b x E K} : HOLD w (.op2 o a b) x E K ↔ K x E := HOLD_np rfl
theorem BRW_op2 {o a b w x K} : BRW (.op2 o a b) w x K ↔ K () := BRW_np rfl
theorem Wac_op2 {Φ : Phi} {o a b r E P} : W.EVa Φ ((.op2 o a b) :: r) E P ↔ W.EV Φ (.op2 o a b) E fun x E1 => ESC (.op2 o a b) x E1 fun x E2 => W.EVa Φ r E2 fun xs E3 => P (.inl x :: xs) E3 := W_acons rfl
theorem Wret_op2 {Φ : Phi} {o a b E N R} : W.EX Φ (.ret (.op2 o a b)) E N R ↔ W.EV Φ (.op2 o a b) E fun x E1 => ESC (.op2 o a b) x E1 R := W_ret rfl
theorem slI_op2 {o a b} {q0 : Int} : sliceI (.op2 o a b) (.int q0) = some (some q0) := rfl
theorem isPl_op2 {o a b} : isPl (.op2 o a b) = false := rfl
theorem ESC_op3 { o a b c x E K} : ESC (.op3 o a b c) x E K ↔ K x E := ESC_np rfl
theorem KESC_op3 { o a b c x E K} : KESC (.op3 o a b c) x E K ↔ K x E := KESC_np rfl
theorem HOLD_op3 {w  o a b c x E K} : HOLD w (.op3 o a b c) x E K ↔ K x E := HOLD_np rfl
theorem BRW_op3 {o a b c w x K} : BRW (.op3 o a b c) w x K ↔ K () := BRW_np rfl
theorem Wac_op3 {Φ : Phi} {o a b c r E P} : W.EVa Φ ((.op3 o a b c) :: r) E P ↔ W.EV Φ (.op3 o a b c) E fun x E1 => ESC (.op3 o a b c) x E1 fun x E2 => W.EVa Φ r E2 fun xs E3 => P (.inl x :: xs) E3 := W_acons rfl
theorem Wret_op3 {Φ : Phi} {o a b c E N R} : W.EX Φ (.ret (.op3 o a b c)) E N R ↔ W.EV Φ (.op3 o a b c) E fun x E1 => ESC (.op3 o a b c) x E1 R := W_ret rfl
theorem slI_op3 {o a b c} {q0 : Int} : sliceI (.op3 o a b c) (.int q0) = some (some q0) := rfl
theorem isPl_op3 {o a b c} : isPl (.op3 o a b c) = false := rfl
theorem ESC_getS { a b c x E K} : ESC (.getS a b c) x E K ↔ K x E := ESC_np rfl
theorem KESC_getS { a b c x E K} : KESC (.getS a b c) x E K ↔ K x E := KESC_np rfl
theorem HOLD_getS {w  a b c x E K} : HOLD w (.getS a b c) x E K ↔ K x E := HOLD_np rfl
theorem BRW_getS {a b c w x K} : BRW (.getS a b c) w x K ↔ K () := BRW_np rfl
theorem Wac_getS {Φ : Phi} {a b c r E P} : W.EVa Φ ((.getS a b c) :: r) E P ↔ W.EV Φ (.getS a b c) E fun x E1 => ESC (.getS a b c) x E1 fun x E2 => W.EVa Φ r E2 fun xs E3 => P (.inl x :: xs) E3 := W_acons rfl
theorem Wret_getS {Φ : Phi} {a b c E N R} : W.EX Φ (.ret (.getS a b c)) E N R ↔ W.EV Φ (.getS a b c) E fun x E1 => ESC (.getS a b c) x E1 R := W_ret rfl
theorem slI_getS {a b c} {q0 : Int} : sliceI (.getS a b c) (.int q0) = some (some q0) := rfl
theorem isPl_getS {a b c} : isPl (.getS a b c) = false := rfl
theorem ESC_opP { o a x E K} : ESC (.opP o a) x E K ↔ K x E := ESC_np rfl
theorem KESC_opP { o a x E K} : KESC (.opP o a) x E K ↔ K x E := KESC_np rfl
theorem HOLD_opP {w  o a x E K} : HOLD w (.opP o a) x E K ↔ K x E := HOLD_np rfl
theorem BRW_opP {o a w x K} : BRW (.opP o a) w x K ↔ K () := BRW_np rfl
theorem Wac_opP {Φ : Phi} {o a r E P} : W.EVa Φ ((.opP o a) :: r) E P ↔ W.EV Φ (.opP o a) E fun x E1 => ESC (.opP o a) x E1 fun x E2 => W.EVa Φ r E2 fun xs E3 => P (.inl x :: xs) E3 := W_acons rfl
theorem Wret_opP {Φ : Phi} {o a E N R} : W.EX Φ (.ret (.opP o a)) E N R ↔ W.EV Φ (.opP o a) E fun x E1 => ESC (.opP o a) x E1 R := W_ret rfl
theorem slI_opP {o a} {q0 : Int} : sliceI (.opP o a) (.int q0) = some (some q0) := rfl
theorem isPl_opP {o a} : isPl (.opP o a) = false := rfl
theorem ESC_cat { a b x E K} : ESC (.cat a b) x E K ↔ K x E := ESC_np rfl
theorem KESC_cat { a b x E K} : KESC (.cat a b) x E K ↔ K x E := KESC_np rfl
theorem HOLD_cat {w  a b x E K} : HOLD w (.cat a b) x E K ↔ K x E := HOLD_np rfl
theorem BRW_cat {a b w x K} : BRW (.cat a b) w x K ↔ K () := BRW_np rfl
theorem Wac_cat {Φ : Phi} {a b r E P} : W.EVa Φ ((.cat a b) :: r) E P ↔ W.EV Φ (.cat a b) E fun x E1 => ESC (.cat a b) x E1 fun x E2 => W.EVa Φ r E2 fun xs E3 => P (.inl x :: xs) E3 := W_acons rfl
theorem Wret_cat {Φ : Phi} {a b E N R} : W.EX Φ (.ret (.cat a b)) E N R ↔ W.EV Φ (.cat a b) E fun x E1 => ESC (.cat a b) x E1 R := W_ret rfl
theorem slI_cat {a b} {q0 : Int} : sliceI (.cat a b) (.int q0) = some (some q0) := rfl
theorem isPl_cat {a b} : isPl (.cat a b) = false := rfl
theorem ESC_catT { a b x E K} : ESC (.catT a b) x E K ↔ K x E := ESC_np rfl
theorem KESC_catT { a b x E K} : KESC (.catT a b) x E K ↔ K x E := KESC_np rfl
theorem HOLD_catT {w  a b x E K} : HOLD w (.catT a b) x E K ↔ K x E := HOLD_np rfl
theorem BRW_catT {a b w x K} : BRW (.catT a b) w x K ↔ K () := BRW_np rfl
theorem Wac_catT {Φ : Phi} {a b r E P} : W.EVa Φ ((.catT a b) :: r) E P ↔ W.EV Φ (.catT a b) E fun x E1 => ESC (.catT a b) x E1 fun x E2 => W.EVa Φ r E2 fun xs E3 => P (.inl x :: xs) E3 := W_acons rfl
theorem Wret_catT {Φ : Phi} {a b E N R} : W.EX Φ (.ret (.catT a b)) E N R ↔ W.EV Φ (.catT a b) E fun x E1 => ESC (.catT a b) x E1 R := W_ret rfl
theorem slI_catT {a b} {q0 : Int} : sliceI (.catT a b) (.int q0) = some (some q0) := rfl
theorem isPl_catT {a b} : isPl (.catT a b) = false := rfl
theorem ESC_rep { a b x E K} : ESC (.rep a b) x E K ↔ K x E := ESC_np rfl
theorem KESC_rep { a b x E K} : KESC (.rep a b) x E K ↔ K x E := KESC_np rfl
theorem HOLD_rep {w  a b x E K} : HOLD w (.rep a b) x E K ↔ K x E := HOLD_np rfl
theorem BRW_rep {a b w x K} : BRW (.rep a b) w x K ↔ K () := BRW_np rfl
theorem Wac_rep {Φ : Phi} {a b r E P} : W.EVa Φ ((.rep a b) :: r) E P ↔ W.EV Φ (.rep a b) E fun x E1 => ESC (.rep a b) x E1 fun x E2 => W.EVa Φ r E2 fun xs E3 => P (.inl x :: xs) E3 := W_acons rfl
theorem Wret_rep {Φ : Phi} {a b E N R} : W.EX Φ (.ret (.rep a b)) E N R ↔ W.EV Φ (.rep a b) E fun x E1 => ESC (.rep a b) x E1 R := W_ret rfl
theorem slI_rep {a b} {q0 : Int} : sliceI (.rep a b) (.int q0) = some (some q0) := rfl
theorem isPl_rep {a b} : isPl (.rep a b) = false := rfl
theorem ESC_and { a b x E K} : ESC (.and a b) x E K ↔ K x E := ESC_np rfl
theorem KESC_and { a b x E K} : KESC (.and a b) x E K ↔ K x E := KESC_np rfl
theorem HOLD_and {w  a b x E K} : HOLD w (.and a b) x E K ↔ K x E := HOLD_np rfl
theorem BRW_and {a b w x K} : BRW (.and a b) w x K ↔ K () := BRW_np rfl
theorem Wac_and {Φ : Phi} {a b r E P} : W.EVa Φ ((.and a b) :: r) E P ↔ W.EV Φ (.and a b) E fun x E1 => ESC (.and a b) x E1 fun x E2 => W.EVa Φ r E2 fun xs E3 => P (.inl x :: xs) E3 := W_acons rfl
theorem Wret_and {Φ : Phi} {a b E N R} : W.EX Φ (.ret (.and a b)) E N R ↔ W.EV Φ (.and a b) E fun x E1 => ESC (.and a b) x E1 R := W_ret rfl
theorem slI_and {a b} {q0 : Int} : sliceI (.and a b) (.int q0) = some (some q0) := rfl
theorem isPl_and {a b} : isPl (.and a b) = false := rfl
theorem ESC_or { a b x E K} : ESC (.or a b) x E K ↔ K x E := ESC_np rfl
theorem KESC_or { a b x E K} : KESC (.or a b) x E K ↔ K x E := KESC_np rfl
theorem HOLD_or {w  a b x E K} : HOLD w (.or a b) x E K ↔ K x E := HOLD_np rfl
theorem BRW_or {a b w x K} : BRW (.or a b) w x K ↔ K () := BRW_np rfl
theorem Wac_or {Φ : Phi} {a b r E P} : W.EVa Φ ((.or a b) :: r) E P ↔ W.EV Φ (.or a b) E fun x E1 => ESC (.or a b) x E1 fun x E2 => W.EVa Φ r E2 fun xs E3 => P (.inl x :: xs) E3 := W_acons rfl
theorem Wret_or {Φ : Phi} {a b E N R} : W.EX Φ (.ret (.or a b)) E N R ↔ W.EV Φ (.or a b) E fun x E1 => ESC (.or a b) x E1 R := W_ret rfl
theorem slI_or {a b} {q0 : Int} : sliceI (.or a b) (.int q0) = some (some q0) := rfl
theorem isPl_or {a b} : isPl (.or a b) = false := rfl
theorem ESC_ife { c0 a0 b0 x E K} : ESC (.ife c0 a0 b0) x E K ↔ K x E := ESC_np rfl
theorem KESC_ife { c0 a0 b0 x E K} : KESC (.ife c0 a0 b0) x E K ↔ K x E := KESC_np rfl
theorem HOLD_ife {w  c0 a0 b0 x E K} : HOLD w (.ife c0 a0 b0) x E K ↔ K x E := HOLD_np rfl
theorem BRW_ife {c0 a0 b0 w x K} : BRW (.ife c0 a0 b0) w x K ↔ K () := BRW_np rfl
theorem Wac_ife {Φ : Phi} {c0 a0 b0 r E P} : W.EVa Φ ((.ife c0 a0 b0) :: r) E P ↔ W.EV Φ (.ife c0 a0 b0) E fun x E1 => ESC (.ife c0 a0 b0) x E1 fun x E2 => W.EVa Φ r E2 fun xs E3 => P (.inl x :: xs) E3 := W_acons rfl
theorem Wret_ife {Φ : Phi} {c0 a0 b0 E N R} : W.EX Φ (.ret (.ife c0 a0 b0)) E N R ↔ W.EV Φ (.ife c0 a0 b0) E fun x E1 => ESC (.ife c0 a0 b0) x E1 R := W_ret rfl
theorem slI_ife {c0 a0 b0} {q0 : Int} : sliceI (.ife c0 a0 b0) (.int q0) = some (some q0) := rfl
theorem isPl_ife {c0 a0 b0} : isPl (.ife c0 a0 b0) = false := rfl
theorem ESC_tup { es x E K} : ESC (.tup es) x E K ↔ K x E := ESC_np rfl
theorem KESC_tup { es x E K} : KESC (.tup es) x E K ↔ K x E := KESC_np rfl
theorem HOLD_tup {w  es x E K} : HOLD w (.tup es) x E K ↔ K x E := HOLD_np rfl
theorem BRW_tup {es w x K} : BRW (.tup es) w x K ↔ K () := BRW_np rfl
theorem Wac_tup {Φ : Phi} {es r E P} : W.EVa Φ ((.tup es) :: r) E P ↔ W.EV Φ (.tup es) E fun x E1 => ESC (.tup es) x E1 fun x E2 => W.EVa Φ r E2 fun xs E3 => P (.inl x :: xs) E3 := W_acons rfl
theorem Wret_tup {Φ : Phi} {es E N R} : W.EX Φ (.ret (.tup es)) E N R ↔ W.EV Φ (.tup es) E fun x E1 => ESC (.tup es) x E1 R := W_ret rfl
theorem slI_tup {es} {q0 : Int} : sliceI (.tup es) (.int q0) = some (some q0) := rfl
theorem isPl_tup {es} : isPl (.tup es) = false := rfl
theorem ESC_lst { es x E K} : ESC (.lst es) x E K ↔ K x E := ESC_np rfl
theorem KESC_lst { es x E K} : KESC (.lst es) x E K ↔ K x E := KESC_np rfl
theorem HOLD_lst {w  es x E K} : HOLD w (.lst es) x E K ↔ K x E := HOLD_np rfl
theorem BRW_lst {es w x K} : BRW (.lst es) w x K ↔ K () := BRW_np rfl
theorem Wac_lst {Φ : Phi} {es r E P} : W.EVa Φ ((.lst es) :: r) E P ↔ W.EV Φ (.lst es) E fun x E1 => ESC (.lst es) x E1 fun x E2 => W.EVa Φ r E2 fun xs E3 => P (.inl x :: xs) E3 := W_acons rfl
theorem Wret_lst {Φ : Phi} {es E N R} : W.EX Φ (.ret (.lst es)) E N R ↔ W.EV Φ (.lst es) E fun x E1 => ESC (.lst es) x E1 R := W_ret rfl
theorem slI_lst {es} {q0 : Int} : sliceI (.lst es) (.int q0) = some (some q0) := rfl
theorem isPl_lst {es} : isPl (.lst es) = false := rfl
theorem ESC_dct0 { t0 x E K} : ESC (.dct0 t0) x E K ↔ K x E := ESC_np rfl
theorem KESC_dct0 { t0 x E K} : KESC (.dct0 t0) x E K ↔ K x E := KESC_np rfl
theorem HOLD_dct0 {w  t0 x E K} : HOLD w (.dct0 t0) x E K ↔ K x E := HOLD_np rfl
theorem BRW_dct0 {t0 w x K} : BRW (.dct0 t0) w x K ↔ K () := BRW_np rfl
theorem Wac_dct0 {Φ : Phi} {t0 r E P} : W.EVa Φ ((.dct0 t0) :: r) E P ↔ W.EV Φ (.dct0 t0) E fun x E1 => ESC (.dct0 t0) x E1 fun x E2 => W.EVa Φ r E2 fun xs E3 => P (.inl x :: xs) E3 := W_acons rfl
theorem Wret_dct0 {Φ : Phi} {t0 E N R} : W.EX Φ (.ret (.dct0 t0)) E N R ↔ W.EV Φ (.dct0 t0) E fun x E1 => ESC (.dct0 t0) x E1 R := W_ret rfl
theorem slI_dct0 {t0} {q0 : Int} : sliceI (.dct0 t0) (.int q0) = some (some q0) := rfl
theorem isPl_dct0 {t0} : isPl (.dct0 t0) = false := rfl
theorem ESC_dct { es x E K} : ESC (.dct es) x E K ↔ K x E := ESC_np rfl
theorem KESC_dct { es x E K} : KESC (.dct es) x E K ↔ K x E := KESC_np rfl
theorem HOLD_dct {w  es x E K} : HOLD w (.dct es) x E K ↔ K x E := HOLD_np rfl
theorem BRW_dct {es w x K} : BRW (.dct es) w x K ↔ K () := BRW_np rfl
theorem Wac_dct {Φ : Phi} {es r E P} : W.EVa Φ ((.dct es) :: r) E P ↔ W.EV Φ (.dct es) E fun x E1 => ESC (.dct es) x E1 fun x E2 => W.EVa Φ r E2 fun xs E3 => P (.inl x :: xs) E3 := W_acons rfl
theorem Wret_dct {Φ : Phi} {es E N R} : W.EX Φ (.ret (.dct es)) E N R ↔ W.EV Φ (.dct es) E fun x E1 => ESC (.dct es) x E1 R := W_ret rfl
theorem slI_dct {es} {q0 : Int} : sliceI (.dct es) (.int q0) = some (some q0) := rfl
theorem isPl_dct {es} : isPl (.dct es) = false := rfl
theorem ESC_dctT { es x E K} : ESC (.dctT es) x E K ↔ K x E := ESC_np rfl
theorem KESC_dctT { es x E K} : KESC (.dctT es) x E K ↔ K x E := KESC_np rfl
theorem HOLD_dctT {w  es x E K} : HOLD w (.dctT es) x E K ↔ K x E := HOLD_np rfl
theorem BRW_dctT {es w x K} : BRW (.dctT es) w x K ↔ K () := BRW_np rfl
theorem Wac_dctT {Φ : Phi} {es r E P} : W.EVa Φ ((.dctT es) :: r) E P ↔ W.EV Φ (.dctT es) E fun x E1 => ESC (.dctT es) x E1 fun x E2 => W.EVa Φ r E2 fun xs E3 => P (.inl x :: xs) E3 := W_acons rfl
theorem Wret_dctT {Φ : Phi} {es E N R} : W.EX Φ (.ret (.dctT es)) E N R ↔ W.EV Φ (.dctT es) E fun x E1 => ESC (.dctT es) x E1 R := W_ret rfl
theorem slI_dctT {es} {q0 : Int} : sliceI (.dctT es) (.int q0) = some (some q0) := rfl
theorem isPl_dctT {es} : isPl (.dctT es) = false := rfl
theorem ESC_inG { n0 e0 x0 x E K} : ESC (.inG n0 e0 x0) x E K ↔ K x E := ESC_np rfl
theorem KESC_inG { n0 e0 x0 x E K} : KESC (.inG n0 e0 x0) x E K ↔ K x E := KESC_np rfl
theorem HOLD_inG {w  n0 e0 x0 x E K} : HOLD w (.inG n0 e0 x0) x E K ↔ K x E := HOLD_np rfl
theorem BRW_inG {n0 e0 x0 w x K} : BRW (.inG n0 e0 x0) w x K ↔ K () := BRW_np rfl
theorem Wac_inG {Φ : Phi} {n0 e0 x0 r E P} : W.EVa Φ ((.inG n0 e0 x0) :: r) E P ↔ W.EV Φ (.inG n0 e0 x0) E fun x E1 => ESC (.inG n0 e0 x0) x E1 fun x E2 => W.EVa Φ r E2 fun xs E3 => P (.inl x :: xs) E3 := W_acons rfl
theorem Wret_inG {Φ : Phi} {n0 e0 x0 E N R} : W.EX Φ (.ret (.inG n0 e0 x0)) E N R ↔ W.EV Φ (.inG n0 e0 x0) E fun x E1 => ESC (.inG n0 e0 x0) x E1 R := W_ret rfl
theorem slI_inG {n0 e0 x0} {q0 : Int} : sliceI (.inG n0 e0 x0) (.int q0) = some (some q0) := rfl
theorem isPl_inG {n0 e0 x0} : isPl (.inG n0 e0 x0) = false := rfl
theorem ESC_call { g es x E K} : ESC (.call g es) x E K ↔ K x E := ESC_np rfl
theorem KESC_call { g es x E K} : KESC (.call g es) x E K ↔ K x E := KESC_np rfl
theorem HOLD_call {w  g es x E K} : HOLD w (.call g es) x E K ↔ K x E := HOLD_np rfl
theorem BRW_call {g es w x K} : BRW (.call g es) w x K ↔ K () := BRW_np rfl
theorem Wac_call {Φ : Phi} {g es r E P} : W.EVa Φ ((.call g es) :: r) E P ↔ W.EV Φ (.call g es) E fun x E1 => ESC (.call g es) x E1 fun x E2 => W.EVa Φ r E2 fun xs E3 => P (.inl x :: xs) E3 := W_acons rfl
theorem Wret_call {Φ : Phi} {g es E N R} : W.EX Φ (.ret (.call g es)) E N R ↔ W.EV Φ (.call g es) E fun x E1 => ESC (.call g es) x E1 R := W_ret rfl
theorem slI_call {g es} {q0 : Int} : sliceI (.call g es) (.int q0) = some (some q0) := rfl
theorem isPl_call {g es} : isPl (.call g es) = false := rfl
theorem ESC_callv { f0 es x E K} : ESC (.callv f0 es) x E K ↔ K x E := ESC_np rfl
theorem KESC_callv { f0 es x E K} : KESC (.callv f0 es) x E K ↔ K x E := KESC_np rfl
theorem HOLD_callv {w  f0 es x E K} : HOLD w (.callv f0 es) x E K ↔ K x E := HOLD_np rfl
theorem BRW_callv {f0 es w x K} : BRW (.callv f0 es) w x K ↔ K () := BRW_np rfl
theorem Wac_callv {Φ : Phi} {f0 es r E P} : W.EVa Φ ((.callv f0 es) :: r) E P ↔ W.EV Φ (.callv f0 es) E fun x E1 => ESC (.callv f0 es) x E1 fun x E2 => W.EVa Φ r E2 fun xs E3 => P (.inl x :: xs) E3 := W_acons rfl
theorem Wret_callv {Φ : Phi} {f0 es E N R} : W.EX Φ (.ret (.callv f0 es)) E N R ↔ W.EV Φ (.callv f0 es) E fun x E1 => ESC (.callv f0 es) x E1 R := W_ret rfl
theorem slI_callv {f0 es} {q0 : Int} : sliceI (.callv f0 es) (.int q0) = some (some q0) := rfl
theorem isPl_callv {f0 es} : isPl (.callv f0 es) = false := rfl
theorem ESC_mut { m i es x E K} : ESC (.mut m i es) x E K ↔ K x E := ESC_np rfl
theorem KESC_mut { m i es x E K} : KESC (.mut m i es) x E K ↔ K x E := KESC_np rfl
theorem HOLD_mut {w  m i es x E K} : HOLD w (.mut m i es) x E K ↔ K x E := HOLD_np rfl
theorem BRW_mut {m i es w x K} : BRW (.mut m i es) w x K ↔ K () := BRW_np rfl
theorem Wac_mut {Φ : Phi} {m i es r E P} : W.EVa Φ ((.mut m i es) :: r) E P ↔ W.EV Φ (.mut m i es) E fun x E1 => ESC (.mut m i es) x E1 fun x E2 => W.EVa Φ r E2 fun xs E3 => P (.inl x :: xs) E3 := W_acons rfl
theorem Wret_mut {Φ : Phi} {m i es E N R} : W.EX Φ (.ret (.mut m i es)) E N R ↔ W.EV Φ (.mut m i es) E fun x E1 => ESC (.mut m i es) x E1 R := W_ret rfl
theorem slI_mut {m i es} {q0 : Int} : sliceI (.mut m i es) (.int q0) = some (some q0) := rfl
theorem isPl_mut {m i es} : isPl (.mut m i es) = false := rfl
theorem ESC_mutP { m p es x E K} : ESC (.mutP m p es) x E K ↔ K x E := ESC_np rfl
theorem KESC_mutP { m p es x E K} : KESC (.mutP m p es) x E K ↔ K x E := KESC_np rfl
theorem HOLD_mutP {w  m p es x E K} : HOLD w (.mutP m p es) x E K ↔ K x E := HOLD_np rfl
theorem BRW_mutP {m p es w x K} : BRW (.mutP m p es) w x K ↔ K () := BRW_np rfl
theorem Wac_mutP {Φ : Phi} {m p es r E P} : W.EVa Φ ((.mutP m p es) :: r) E P ↔ W.EV Φ (.mutP m p es) E fun x E1 => ESC (.mutP m p es) x E1 fun x E2 => W.EVa Φ r E2 fun xs E3 => P (.inl x :: xs) E3 := W_acons rfl
theorem Wret_mutP {Φ : Phi} {m p es E N R} : W.EX Φ (.ret (.mutP m p es)) E N R ↔ W.EV Φ (.mutP m p es) E fun x E1 => ESC (.mutP m p es) x E1 R := W_ret rfl
theorem slI_mutP {m p es} {q0 : Int} : sliceI (.mutP m p es) (.int q0) = some (some q0) := rfl
theorem isPl_mutP {m p es} : isPl (.mutP m p es) = false := rfl
theorem ESC_clrP { p x E K} : ESC (.clrP p) x E K ↔ K x E := ESC_np rfl
theorem KESC_clrP { p x E K} : KESC (.clrP p) x E K ↔ K x E := KESC_np rfl
theorem HOLD_clrP {w  p x E K} : HOLD w (.clrP p) x E K ↔ K x E := HOLD_np rfl
theorem BRW_clrP {p w x K} : BRW (.clrP p) w x K ↔ K () := BRW_np rfl
theorem Wac_clrP {Φ : Phi} {p r E P} : W.EVa Φ ((.clrP p) :: r) E P ↔ W.EV Φ (.clrP p) E fun x E1 => ESC (.clrP p) x E1 fun x E2 => W.EVa Φ r E2 fun xs E3 => P (.inl x :: xs) E3 := W_acons rfl
theorem Wret_clrP {Φ : Phi} {p E N R} : W.EX Φ (.ret (.clrP p)) E N R ↔ W.EV Φ (.clrP p) E fun x E1 => ESC (.clrP p) x E1 R := W_ret rfl
theorem slI_clrP {p} {q0 : Int} : sliceI (.clrP p) (.int q0) = some (some q0) := rfl
theorem isPl_clrP {p} : isPl (.clrP p) = false := rfl
theorem ESC_comp { h0 e0 t0 k0 s0 c0 x E K} : ESC (.comp h0 e0 t0 k0 s0 c0) x E K ↔ K x E := ESC_np rfl
theorem KESC_comp { h0 e0 t0 k0 s0 c0 x E K} : KESC (.comp h0 e0 t0 k0 s0 c0) x E K ↔ K x E := KESC_np rfl
theorem HOLD_comp {w  h0 e0 t0 k0 s0 c0 x E K} : HOLD w (.comp h0 e0 t0 k0 s0 c0) x E K ↔ K x E := HOLD_np rfl
theorem BRW_comp {h0 e0 t0 k0 s0 c0 w x K} : BRW (.comp h0 e0 t0 k0 s0 c0) w x K ↔ K () := BRW_np rfl
theorem Wac_comp {Φ : Phi} {h0 e0 t0 k0 s0 c0 r E P} : W.EVa Φ ((.comp h0 e0 t0 k0 s0 c0) :: r) E P ↔ W.EV Φ (.comp h0 e0 t0 k0 s0 c0) E fun x E1 => ESC (.comp h0 e0 t0 k0 s0 c0) x E1 fun x E2 => W.EVa Φ r E2 fun xs E3 => P (.inl x :: xs) E3 := W_acons rfl
theorem Wret_comp {Φ : Phi} {h0 e0 t0 k0 s0 c0 E N R} : W.EX Φ (.ret (.comp h0 e0 t0 k0 s0 c0)) E N R ↔ W.EV Φ (.comp h0 e0 t0 k0 s0 c0) E fun x E1 => ESC (.comp h0 e0 t0 k0 s0 c0) x E1 R := W_ret rfl
theorem slI_comp {h0 e0 t0 k0 s0 c0} {q0 : Int} : sliceI (.comp h0 e0 t0 k0 s0 c0) (.int q0) = some (some q0) := rfl
theorem isPl_comp {h0 e0 t0 k0 s0 c0} : isPl (.comp h0 e0 t0 k0 s0 c0) = false := rfl
theorem ESC_comph { e0 t0 i0 c0 x E K} : ESC (.comph e0 t0 i0 c0) x E K ↔ K x E := ESC_np rfl
theorem KESC_comph { e0 t0 i0 c0 x E K} : KESC (.comph e0 t0 i0 c0) x E K ↔ K x E := KESC_np rfl
theorem HOLD_comph {w  e0 t0 i0 c0 x E K} : HOLD w (.comph e0 t0 i0 c0) x E K ↔ K x E := HOLD_np rfl
theorem BRW_comph {e0 t0 i0 c0 w x K} : BRW (.comph e0 t0 i0 c0) w x K ↔ K () := BRW_np rfl
theorem Wac_comph {Φ : Phi} {e0 t0 i0 c0 r E P} : W.EVa Φ ((.comph e0 t0 i0 c0) :: r) E P ↔ W.EV Φ (.comph e0 t0 i0 c0) E fun x E1 => ESC (.comph e0 t0 i0 c0) x E1 fun x E2 => W.EVa Φ r E2 fun xs E3 => P (.inl x :: xs) E3 := W_acons rfl
theorem Wret_comph {Φ : Phi} {e0 t0 i0 c0 E N R} : W.EX Φ (.ret (.comph e0 t0 i0 c0)) E N R ↔ W.EV Φ (.comph e0 t0 i0 c0) E fun x E1 => ESC (.comph e0 t0 i0 c0) x E1 R := W_ret rfl
theorem slI_comph {e0 t0 i0 c0} {q0 : Int} : sliceI (.comph e0 t0 i0 c0) (.int q0) = some (some q0) := rfl
theorem isPl_comph {e0 t0 i0 c0} : isPl (.comph e0 t0 i0 c0) = false := rfl
theorem ESC_brw { l0 e0 x E K} : ESC (.brw l0 e0) x E K ↔ K x E := ESC_np rfl
theorem KESC_brw { l0 e0 x E K} : KESC (.brw l0 e0) x E K ↔ K x E := KESC_np rfl
theorem HOLD_brw {w  l0 e0 x E K} : HOLD w (.brw l0 e0) x E K ↔ K x E := HOLD_np rfl
theorem BRW_brw {l0 e0 w x K} : BRW (.brw l0 e0) w x K ↔ K () := BRW_np rfl
theorem Wac_brw {Φ : Phi} {l0 e0 r E P} : W.EVa Φ ((.brw l0 e0) :: r) E P ↔ W.EV Φ (.brw l0 e0) E fun x E1 => ESC (.brw l0 e0) x E1 fun x E2 => W.EVa Φ r E2 fun xs E3 => P (.inl x :: xs) E3 := W_acons rfl
theorem Wret_brw {Φ : Phi} {l0 e0 E N R} : W.EX Φ (.ret (.brw l0 e0)) E N R ↔ W.EV Φ (.brw l0 e0) E fun x E1 => ESC (.brw l0 e0) x E1 R := W_ret rfl
theorem slI_brw {l0 e0} {q0 : Int} : sliceI (.brw l0 e0) (.int q0) = some (some q0) := rfl
theorem isPl_brw {l0 e0} : isPl (.brw l0 e0) = false := rfl
theorem ESC_dpop { i0 e0 x E K} : ESC (.dpop i0 e0) x E K ↔ K x E := ESC_np rfl
theorem KESC_dpop { i0 e0 x E K} : KESC (.dpop i0 e0) x E K ↔ K x E := KESC_np rfl
theorem HOLD_dpop {w  i0 e0 x E K} : HOLD w (.dpop i0 e0) x E K ↔ K x E := HOLD_np rfl
theorem BRW_dpop {i0 e0 w x K} : BRW (.dpop i0 e0) w x K ↔ K () := BRW_np rfl
theorem Wac_dpop {Φ : Phi} {i0 e0 r E P} : W.EVa Φ ((.dpop i0 e0) :: r) E P ↔ W.EV Φ (.dpop i0 e0) E fun x E1 => ESC (.dpop i0 e0) x E1 fun x E2 => W.EVa Φ r E2 fun xs E3 => P (.inl x :: xs) E3 := W_acons rfl
theorem Wret_dpop {Φ : Phi} {i0 e0 E N R} : W.EX Φ (.ret (.dpop i0 e0)) E N R ↔ W.EV Φ (.dpop i0 e0) E fun x E1 => ESC (.dpop i0 e0) x E1 R := W_ret rfl
theorem slI_dpop {i0 e0} {q0 : Int} : sliceI (.dpop i0 e0) (.int q0) = some (some q0) := rfl
theorem isPl_dpop {i0 e0} : isPl (.dpop i0 e0) = false := rfl
theorem ESC_dupd { i0 l0 x E K} : ESC (.dupd i0 l0) x E K ↔ K x E := ESC_np rfl
theorem KESC_dupd { i0 l0 x E K} : KESC (.dupd i0 l0) x E K ↔ K x E := KESC_np rfl
theorem HOLD_dupd {w  i0 l0 x E K} : HOLD w (.dupd i0 l0) x E K ↔ K x E := HOLD_np rfl
theorem BRW_dupd {i0 l0 w x K} : BRW (.dupd i0 l0) w x K ↔ K () := BRW_np rfl
theorem Wac_dupd {Φ : Phi} {i0 l0 r E P} : W.EVa Φ ((.dupd i0 l0) :: r) E P ↔ W.EV Φ (.dupd i0 l0) E fun x E1 => ESC (.dupd i0 l0) x E1 fun x E2 => W.EVa Φ r E2 fun xs E3 => P (.inl x :: xs) E3 := W_acons rfl
theorem Wret_dupd {Φ : Phi} {i0 l0 E N R} : W.EX Φ (.ret (.dupd i0 l0)) E N R ↔ W.EV Φ (.dupd i0 l0) E fun x E1 => ESC (.dupd i0 l0) x E1 R := W_ret rfl
theorem slI_dupd {i0 l0} {q0 : Int} : sliceI (.dupd i0 l0) (.int q0) = some (some q0) := rfl
theorem isPl_dupd {i0 l0} : isPl (.dupd i0 l0) = false := rfl
theorem ESC_anyT { j0 i0 c0 x E K} : ESC (.anyT j0 i0 c0) x E K ↔ K x E := ESC_np rfl
theorem KESC_anyT { j0 i0 c0 x E K} : KESC (.anyT j0 i0 c0) x E K ↔ K x E := KESC_np rfl
theorem HOLD_anyT {w  j0 i0 c0 x E K} : HOLD w (.anyT j0 i0 c0) x E K ↔ K x E := HOLD_np rfl
theorem BRW_anyT {j0 i0 c0 w x K} : BRW (.anyT j0 i0 c0) w x K ↔ K () := BRW_np rfl
theorem Wac_anyT {Φ : Phi} {j0 i0 c0 r E P} : W.EVa Φ ((.anyT j0 i0 c0) :: r) E P ↔ W.EV Φ (.anyT j0 i0 c0) E fun x E1 => ESC (.anyT j0 i0 c0) x E1 fun x E2 => W.EVa Φ r E2 fun xs E3 => P (.inl x :: xs) E3 := W_acons rfl
theorem Wret_anyT {Φ : Phi} {j0 i0 c0 E N R} : W.EX Φ (.ret (.anyT j0 i0 c0)) E N R ↔ W.EV Φ (.anyT j0 i0 c0) E fun x E1 => ESC (.anyT j0 i0 c0) x E1 R := W_ret rfl
theorem slI_anyT {j0 i0 c0} {q0 : Int} : sliceI (.anyT j0 i0 c0) (.int q0) = some (some q0) := rfl
theorem isPl_anyT {j0 i0 c0} : isPl (.anyT j0 i0 c0) = false := rfl
theorem ESC_slk { a b c x E K} : ESC (.slk a b c) x E K ↔ K x E := ESC_np rfl
theorem KESC_slk { a b c x E K} : KESC (.slk a b c) x E K ↔ K x E := KESC_np rfl
theorem HOLD_slk {w  a b c x E K} : HOLD w (.slk a b c) x E K ↔ K x E := HOLD_np rfl
theorem BRW_slk {a b c w x K} : BRW (.slk a b c) w x K ↔ K () := BRW_np rfl
theorem Wac_slk {Φ : Phi} {a b c r E P} : W.EVa Φ ((.slk a b c) :: r) E P ↔ W.EV Φ (.slk a b c) E fun x E1 => ESC (.slk a b c) x E1 fun x E2 => W.EVa Φ r E2 fun xs E3 => P (.inl x :: xs) E3 := W_acons rfl
theorem Wret_slk {Φ : Phi} {a b c E N R} : W.EX Φ (.ret (.slk a b c)) E N R ↔ W.EV Φ (.slk a b c) E fun x E1 => ESC (.slk a b c) x E1 R := W_ret rfl
theorem slI_slk {a b c} {q0 : Int} : sliceI (.slk a b c) (.int q0) = some (some q0) := rfl
theorem isPl_slk {a b c} : isPl (.slk a b c) = false := rfl
theorem Wac_var {Φ : Phi} {i r E P} : W.EVa Φ ((.var i) :: r) E P ↔ W.EV Φ (.var i) E fun x E1 => ESC (.var i) x E1 fun x E2 => W.EVa Φ r E2 fun xs E3 => P (.inl x :: xs) E3 := W_acons rfl
theorem Wac_ix {Φ : Phi} {a b r E P} : W.EVa Φ ((.ix a b) :: r) E P ↔ W.EV Φ (.ix a b) E fun x E1 => ESC (.ix a b) x E1 fun x E2 => W.EVa Φ r E2 fun xs E3 => P (.inl x :: xs) E3 := W_acons rfl
theorem Wret_ix {Φ : Phi} {a b E N R} : W.EX Φ (.ret (.ix a b)) E N R ↔ W.EV Φ (.ix a b) E fun x E1 => ESC (.ix a b) x E1 R := W_ret rfl
theorem slI_non {d} : sliceI .non d = some none := by cases d <;> rfl
theorem slI_var {x} {q0 : Int} : sliceI (.var x) (.int q0) = some (some q0) := rfl
theorem slI_ix {x y} {q0 : Int} : sliceI (.ix x y) (.int q0) = some (some q0) := rfl
theorem isPl_var {i} : isPl (.var i) = true := rfl
theorem isPl_ix {a b} : isPl (.ix a b) = isPl a := rfl
theorem root_var {i} : root (.var i) = i := rfl
theorem root_ix {a b} : root (.ix a b) = root a := rfl
theorem plain_non : plain .non = true := by rw [plain]
theorem kpl_non : kplain .non = true := rfl
theorem vl_non { w} : vl .non w = (.non, .deep) := vl_t plain_non
theorem isDicD_non : isDicD .non = false := rfl
theorem isNon_non : isNon .non = true := rfl
theorem isLstD_non : isLstD .non = false := rfl
theorem down_nond : down .non .deep = .sh := rfl
theorem down_nont : down .non .top = .sh := rfl
theorem down_nons : down .non .sh = .sh := rfl
theorem scalar_non : scalar .non = true := rfl
theorem isiOk_non : isiOk .non = true := rfl
theorem ty_non_int : tyOf .int .non = false := rfl
theorem ty_non_str : tyOf .str .non = false := rfl
theorem ty_non_bool : tyOf .bool .non = false := rfl
theorem ty_non_list : tyOf .list .non = false := rfl
theorem ty_non_tuple : tyOf .tuple .non = false := rfl
theorem ty_non_dict : tyOf .dict .non = false := rfl
theorem plain_bl {b} : plain (.bl b) = true := by rw [plain]
theorem kpl_bl {b} : kplain (.bl b) = true := rfl
theorem vl_bl {b w} : vl (.bl b) w = ((.bl b), .deep) := vl_t plain_bl
theorem isDicD_bl {b} : isDicD (.bl b) = false := rfl
theorem isNon_bl {b} : isNon (.bl b) = false := rfl
theorem isLstD_bl {b} : isLstD (.bl b) = false := rfl
theorem down_bld {b} : down (.bl b) .deep = .sh := rfl
theorem down_blt {b} : down (.bl b) .top = .sh := rfl
theorem down_bls {b} : down (.bl b) .sh = .sh := rfl
theorem scalar_bl {b} : scalar (.bl b) = true := rfl
theorem isiOk_bl {b} : isiOk (.bl b) = true := rfl
theorem ty_bl_int {b} : tyOf .int (.bl b) = true := rfl
theorem ty_bl_str {b} : tyOf .str (.bl b) = false := rfl
theorem ty_bl_bool {b} : tyOf .bool (.bl b) = true := rfl
theorem ty_bl_list {b} : tyOf .list (.bl b) = false := rfl
theorem ty_bl_tuple {b} : tyOf .tuple (.bl b) = false := rfl
theorem ty_bl_dict {b} : tyOf .dict (.bl b) = false := rfl
theorem plain_int {i} : plain (.int i) = true := by rw [plain]
theorem kpl_int {i} : kplain (.int i) = true := rfl
theorem vl_int {i w} : vl (.int i) w = ((.int i), .deep) := vl_t plain_int
theorem isDicD_int {i} : isDicD (.int i) = false := rfl
theorem isNon_int {i} : isNon (.int i) = false := rfl
theorem isLstD_int {i} : isLstD (.int i) = false := rfl
theorem down_intd {i} : down (.int i) .deep = .sh := rfl
theorem down_intt {i} : down (.int i) .top = .sh := rfl
theorem down_ints {i} : down (.int i) .sh = .sh := rfl
theorem scalar_int {i} : scalar (.int i) = true := rfl
theorem isiOk_int {i} : isiOk (.int i) = true := rfl
theorem ty_int_int {i} : tyOf .int (.int i) = true := rfl
theorem ty_int_str {i} : tyOf .str (.int i) = false := rfl
theorem ty_int_bool {i} : tyOf .bool (.int i) = false := rfl
theorem ty_int_list {i} : tyOf .list (.int i) = false := rfl
theorem ty_int_tuple {i} : tyOf .tuple (.int i) = false := rfl
theorem ty_int_dict {i} : tyOf .dict (.int i) = false := rfl
theorem plain_str {s} : plain (.str s) = true := by rw [plain]
theorem kpl_str {s} : kplain (.str s) = true := rfl
theorem vl_str {s w} : vl (.str s) w = ((.str s), .deep) := vl_t plain_str
theorem isDicD_str {s} : isDicD (.str s) = false := rfl
theorem isNon_str {s} : isNon (.str s) = false := rfl
theorem isLstD_str {s} : isLstD (.str s) = false := rfl
theorem down_strd {s} : down (.str s) .deep = .sh := rfl
theorem down_strt {s} : down (.str s) .top = .sh := rfl
theorem down_strs {s} : down (.str s) .sh = .sh := rfl
theorem scalar_str {s} : scalar (.str s) = true := rfl
theorem isiOk_str {s} : isiOk (.str s) = true := rfl
theorem ty_str_int {s} : tyOf .int (.str s) = false := rfl
theorem ty_str_str {s} : tyOf .str (.str s) = true := rfl
theorem ty_str_bool {s} : tyOf .bool (.str s) = false := rfl
theorem ty_str_list {s} : tyOf .list (.str s) = false := rfl
theorem ty_str_tuple {s} : tyOf .tuple (.str s) = false := rfl
theorem ty_str_dict {s} : tyOf .dict (.str s) = false := rfl
theorem plain_fn {g} : plain (.fn g) = true := by rw [plain]
theorem kpl_fn {g} : kplain (.fn g) = true := rfl
theorem vl_fn {g w} : vl (.fn g) w = ((.fn g), .deep) := vl_t plain_fn
theorem isDicD_fn {g} : isDicD (.fn g) = false := rfl
theorem isNon_fn {g} : isNon (.fn g) = false := rfl
theorem isLstD_fn {g} : isLstD (.fn g) = false := rfl
theorem down_fnd {g} : down (.fn g) .deep = .sh := rfl
theorem down_fnt {g} : down (.fn g) .top = .sh := rfl
theorem down_fns {g} : down (.fn g) .sh = .sh := rfl
theorem scalar_fn {g} : scalar (.fn g) = false := rfl
theorem ty_fn_int {g} : tyOf .int (.fn g) = false := rfl
theorem ty_fn_str {g} : tyOf .str (.fn g) = false := rfl
theorem ty_fn_bool {g} : tyOf .bool (.fn g) = false := rfl
theorem ty_fn_list {g} : tyOf .list (.fn g) = false := rfl
theorem ty_fn_tuple {g} : tyOf .tuple (.fn g) = false := rfl
theorem ty_fn_dict {g} : tyOf .dict (.fn g) = false := rfl
theorem plain_scr {n} : plain (.scr n) = true := by rw [plain]
theorem kpl_scr {n} : kplain (.scr n) = true := rfl
theorem vl_scr {n w} : vl (.scr n) w = ((.scr n), .deep) := vl_t plain_scr
theorem isDicD_scr {n} : isDicD (.scr n) = false := rfl
theorem isNon_scr {n} : isNon (.scr n) = false := rfl
theorem isLstD_scr {n} : isLstD (.scr n) = false := rfl
theorem down_scrd {n} : down (.scr n) .deep = .sh := rfl
theorem down_scrt {n} : down (.scr n) .top = .sh := rfl
theorem down_scrs {n} : down (.scr n) .sh = .sh := rfl
theorem scalar_scr {n} : scalar (.scr n) = false := rfl
theorem ty_scr_int {n} : tyOf .int (.scr n) = false := rfl
theorem ty_scr_str {n} : tyOf .str (.scr n) = false := rfl
theorem ty_scr_bool {n} : tyOf .bool (.scr n) = false := rfl
theorem ty_scr_list {n} : tyOf .list (.scr n) = false := rfl
theorem ty_scr_tuple {n} : tyOf .tuple (.scr n) = false := rfl
theorem ty_scr_dict {n} : tyOf .dict (.scr n) = false := rfl
theorem plain_tup {xs} : plain (.tup xs) = plains xs := by rw [plain]
theorem kpl_tup {xs} : kplain (.tup xs) = plains xs := rfl
theorem vl_tup {xs w} : vl (.tup xs) w = if plains xs = true then ((.tup xs), .deep) else ((.tup xs), w) := by unfold vl; rw [plain_tup]
theorem isDicD_tup {xs} : isDicD (.tup xs) = false := rfl
theorem isNon_tup {xs} : isNon (.tup xs) = false := rfl
theorem isLstD_tup {xs} : isLstD (.tup xs) = false := rfl
theorem down_tupd {xs} : down (.tup xs) .deep = .sh := rfl
theorem down_tupt {xs} : down (.tup xs) .top = .sh := rfl
theorem down_tups {xs} : down (.tup xs) .sh = .sh := rfl
theorem scalar_tup {xs} : scalar (.tup xs) = false := rfl
theorem isiOk_tup {xs} : isiOk (.tup xs) = true := rfl
theorem ty_tup_int {xs} : tyOf .int (.tup xs) = false := rfl
theorem ty_tup_str {xs} : tyOf .str (.tup xs) = false := rfl
theorem ty_tup_bool {xs} : tyOf .bool (.tup xs) = false := rfl
theorem ty_tup_list {xs} : tyOf .list (.tup xs) = false := rfl
theorem ty_tup_tuple {xs} : tyOf .tuple (.tup xs) = true := rfl
theorem ty_tup_dict {xs} : tyOf .dict (.tup xs) = false := rfl
theorem plain_lst {xs} : plain (.lst xs) = false := by rw [plain]
theorem kpl_lst {xs} : kplain (.lst xs) = plains xs := rfl
theorem vl_lst {xs w} : vl (.lst xs) w = ((.lst xs), w) := vl_f plain_lst
theorem isDicD_lst {xs} : isDicD (.lst xs) = false := rfl
theorem isNon_lst {xs} : isNon (.lst xs) = false := rfl
theorem isLstD_lst {xs} : isLstD (.lst xs) = true := rfl
theorem down_lstd {xs} : down (.lst xs) .deep = .top := rfl
theorem down_lstt {xs} : down (.lst xs) .top = .top := rfl
theorem down_lsts {xs} : down (.lst xs) .sh = .sh := rfl
theorem scalar_lst {xs} : scalar (.lst xs) = false := rfl
theorem isiOk_lst {xs} : isiOk (.lst xs) = true := rfl
theorem ty_lst_int {xs} : tyOf .int (.lst xs) = false := rfl
theorem ty_lst_str {xs} : tyOf .str (.lst xs) = false := rfl
theorem ty_lst_bool {xs} : tyOf .bool (.lst xs) = false := rfl
theorem ty_lst_list {xs} : tyOf .list (.lst xs) = true := rfl
theorem ty_lst_tuple {xs} : tyOf .tuple (.lst xs) = false := rfl
theorem ty_lst_dict {xs} : tyOf .dict (.lst xs) = false := rfl
theorem plain_dic {t k} : plain (.dic t k) = false := by rw [plain]
theorem kpl_dic {t k} : kplain (.dic t k) = plains (vals k) := rfl
theorem vl_dic {t k w} : vl (.dic t k) w = ((.dic t k), w) := vl_f plain_dic
theorem isDicD_dic {t k} : isDicD (.dic t k) = true := rfl
theorem isNon_dic {t k} : isNon (.dic t k) = false := rfl
theorem isLstD_dic {t k} : isLstD (.dic t k) = false := rfl
theorem down_dicd {t k} : down (.dic t k) .deep = .top := rfl
theorem down_dict {t k} : down (.dic t k) .top = .top := rfl
theorem down_dics {t k} : down (.dic t k) .sh = .sh := rfl
theorem scalar_dic {t k} : scalar (.dic t k) = false := rfl
theorem ty_dic_int {t k} : tyOf .int (.dic t k) = false := rfl
theorem ty_dic_str {t k} : tyOf .str (.dic t k) = false := rfl
theorem ty_dic_bool {t k} : tyOf .bool (.dic t k) = false := rfl
theorem ty_dic_list {t k} : tyOf .list (.dic t k) = false := rfl
theorem ty_dic_tuple {t k} : tyOf .tuple (.dic t k) = false := rfl
theorem ty_dic_dict {t k} : tyOf .dict (.dic t k) = true := rfl
theorem isiOk_dic {k} : isiOk (.dic false k) = true := rfl
theorem plains_nil : plains [] = true := by rw [plains]
theorem plains_cons {x xs} : plains (x :: xs) = (plain x && plains xs) := by rw [plains]
theorem scalars_nil : scalars [] = true := rfl
theorem scalars_cons {x xs} : scalars (x :: xs) = (scalar x && scalars xs) := rfl
theorem kid_deep : kid .deep = .deep := rfl
theorem kid_top : kid .top = .sh := rfl
theorem kid_sh : kid .sh = .sh := rfl
theorem allDeep_nil : allDeep [] = true := rfl
theorem allDeep_deep {d xs} : allDeep ((d, .deep) :: xs) = allDeep xs := by simp [allDeep]
theorem allDeep_sh {d xs} : allDeep ((d, .sh) :: xs) = (plain d && allDeep xs) := by simp [allDeep]
theorem allDeep_top {d xs} : allDeep ((d, .top) :: xs) = (plain d && allDeep xs) := by simp [allDeep]
theorem mkTup_ite {xs} : mkTup xs = if allDeep xs = true then (.tup (ds xs), .deep) else vl (.tup (ds xs)) .sh := by
  unfold mkTup
  split
  · unfold vl; split <;> rfl
  · rfl
theorem mkLst_ite {xs} : mkLst xs = if allDeep xs = true then (.lst (ds xs), .deep) else (.lst (ds xs), .top) := by unfold mkLst; split <;> rfl
theorem newLst_ite {xs w} : newLst xs w = if plains xs = true then (.lst xs, .deep) else if w = .deep then (.lst xs, .deep) else (.lst xs, .top) := by
  unfold newLst
  split
  · rfl
  · split <;> rfl
theorem wr_int {i} : wr (.int i) = [] := by simp
theorem wr_shv {i} : wr (.shv i) = [] := by simp
theorem wr_shp {i} : wr (.shp i) = [] := by simp
theorem wr_str {s} : wr (.str s) = [] := by simp
theorem wr_bl {b} : wr (.bl b) = [] := by simp
theorem wr_non : wr .non = [] := by simp
theorem wr_glo {d} : wr (.glo d) = [] := by simp
theorem wr_var {i} : wr (.var i) = [] := by simp
theorem wr_dct0 {t} : wr (.dct0 t) = [] := by simp
theorem wr_io {i} : wr (.io i) = [i] := by simp
theorem wr_mv {i} : wr (.mv i) = [i] := by simp
theorem wr_getS {a b c} : wr (.getS a b c) = wr a ++ (wr b ++ ((if isPl c = true then [root c] else []) ++ wr c)) := by simp
theorem wr_clrP {p} : wr (.clrP p) = root p :: wr p := by simp
theorem wr_catT {a b} : wr (.catT a b) = wr a ++ wr b := by simp
theorem wr_ix {a b} : wr (.ix a b) = wr a ++ wr b := by simp
theorem wr_sl {a b c} : wr (.sl a b c) = (if isPl a = true then [root a] else []) ++ (wr a ++ (wr b ++ wr c)) := by simp
theorem wr_op1 {o a} : wr (.op1 o a) = wr a := by simp
theorem wr_op2 {o a b} : wr (.op2 o a b) = wr a ++ wr b := by simp
theorem wr_op3 {o a b c} : wr (.op3 o a b c) = wr a ++ (wr b ++ wr c) := by simp
theorem wr_opP {o a} : wr (.opP o a) = (if isPl a = true then [root a] else []) ++ wr a := by simp
theorem wr_cat {a b} : wr (.cat a b) = ((if isPl a = true then [root a] else []) ++ wr a) ++ ((if isPl b = true then [root b] else []) ++ wr b) := by simp
theorem wr_rep {a b} : wr (.rep a b) = wr a ++ wr b := by simp
theorem wr_and {a b} : wr (.and a b) = wr a ++ wr b := by simp
theorem wr_or {a b} : wr (.or a b) = wr a ++ wr b := by simp
theorem wr_tup {es} : wr (.tup es) = wrs es := by simp
theorem wr_lst {es} : wr (.lst es) = wrs es := by simp
theorem wr_call {g es} : wr (.call g es) = wrs es := by simp
theorem wrS_skip  : wrS .skip = [] := by rw [wrS]
theorem wrS_seq {a b} : wrS (.seq a b) = wrS a ++ wrS b := by rw [wrS]
theorem wrS_set {tg e} : wrS (.set tg e) = tgs tg ++ wrx e := by rw [wrS]
theorem wrS_setIx {i k e} : wrS (.setIx i k e) = i :: (wr k ++ wrx e) := by rw [wrS]
theorem wrS_setP {p k e} : wrS (.setP p k e) = root p :: (wr p ++ (wr k ++ wrx e)) := by rw [wrS]
theorem wrS_expr {e} : wrS (.expr e) = wr e := by rw [wrS]
theorem wrS_ite {c a b} : wrS (.ite c a b) = wr c ++ (wrS a ++ wrS b) := by rw [wrS]
theorem wrS_for_ {tg k es body} : wrS (.for_ tg k es body) = tgs tg ++ (wrs es ++ wrS body) := by rw [wrS]
theorem wrS_whl {c body} : wrS (.whl c body) = wr c ++ wrS body := by rw [wrS]
theorem wrS_ret {e} : wrS (.ret e) = wrx e := by rw [wrS]
theorem wrS_retn  : wrS .retn = [] := by rw [wrS]
theorem wr_ife {c a b} : wr (.ife c a b) = wr c ++ (((if isPl a = true then [root a] else []) ++ wr a) ++ ((if isPl b = true then [root b] else []) ++ wr b)) := by rw [wr]
theorem wr_inG {n e x} : wr (.inG n e x) = wr e := by rw [wr]
theorem wr_callv {f es} : wr (.callv f es) = wr f ++ wrs es := by rw [wr]
theorem wr_mut {m i es} : wr (.mut m i es) = i :: wrs es := by rw [wr]
theorem wr_mutP {m p es} : wr (.mutP m p es) = root p :: (wr p ++ wrs es) := by rw [wr]
theorem wr_slk {a b c} : wr (.slk a b c) = wr a ++ (wr b ++ wr c) := by rw [wr]
theorem wr_brw {l e} : wr (.brw l e) = l ++ wr e := by rw [wr]
theorem wr_dpop {l e} : wr (.dpop l e) = l :: wr e := by rw [wr]
theorem wr_comphv {elt i k cond} : wr (.comph elt (.v i) k cond) = k :: ([i] ++ (((if isPl elt = true then [root elt] else []) ++ wr elt) ++ wr cond)) := by rw [wr]
theorem wr_compv {h elt i k es cond} : wr (.comp h elt (.v i) k es cond) = [i] ++ (((if isPl elt = true then [root elt] else []) ++ wr elt) ++ (wrs es ++ wr cond)) := by rw [wr]
theorem wr_compt {h elt i k es cond} : wr (.comp h elt (.t i) k es cond) = i ++ (((if isPl elt = true then [root elt] else []) ++ wr elt) ++ (wrs es ++ wr cond)) := by rw [wr]
theorem wrs_nil : wrs [] = [] := by simp
theorem wrs_cons {e es} : wrs (e :: es) = ((if isPl e = true then [root e] else []) ++ wr e) ++ wrs es := by simp
theorem wrx_def {e} : wrx e = (if isPl e = true then [root e] else []) ++ wr e := by simp
theorem tgs_v {i} : tgs (.v i) = [i] := rfl
theorem tgs_t {i} : tgs (.t i) = i := rfl
theorem natAbs_lit {n : Nat} : Int.natAbs (no_index (OfNat.ofNat n)) = n := rfl
end BS

set_option Elab.async false
set_option linter.all false
set_option maxRecDepth 100000
set_option maxHeartbeats 2000000

namespace BS
open PySem L2
section
variable {Φ : Phi}
theorem cl {g vs P Q} (h : CL Φ g vs P) (k : ∀ r os, P r os → Q r os) : W.CL Φ g vs Q := CL.imp h k
theorem rng_length {lo c : Int} : ∀ {n i : Nat}, (rng lo c i n).length = n
  | 0, _ => rfl
  | n + 1, i => by rw [rng, List.length_cons, rng_length]
theorem rng_get {lo c : Int} : ∀ {n i k : Nat} (h : k < (rng lo c i n).length), (rng lo c i n)[k] = .int (lo + ((i + k : Nat) : Int) * c)
  | n + 1, i, 0, h => by simp [rng]
  | n + 1, i, k + 1, h => by
    simp only [rng, List.getElem_cons_succ]
    rw [rng_get]
    congr 3
    omega
  | 0, _, _, h => by simp [rng] at h
theorem W_FLnil {tg body E N R} : W.FL Φ tg body [] E N R ↔ N E := FL_nil
theorem W_FLcons {tg body d its E N R} : W.FL Φ tg body (d :: its) E N R ↔ OP (bindT tg (shv d) E) fun E1 => W.EX Φ body E1 (fun E2 => W.FL Φ tg body its E2 N R) R := FL_cons
theorem FL_ix {tg body its E N R} (I : Nat → En → Prop) (h0 : I 0 E) (hs : ∀ k E (h : k < its.length), I k E → OP (bindT tg (shv its[k]) E) fun E1 => W.EX Φ body E1 (fun E2 => I (k + 1) E2) R) (hN : ∀ E, I its.length E → N E) : W.FL Φ tg body its E N R := by
  refine FL_inv (fun a b E => a ++ b = its ∧ I a.length E) ⟨rfl, h0⟩ ?_ ?_
  · rintro a d b E ⟨e, hi⟩ _
    subst e
    have hk : a.length < (a ++ d :: b).length := by simp
    obtain ⟨E1, h1, h2⟩ := hs a.length E hk hi
    refine ⟨E1, by rw [← h1]; simp, ?_⟩
    refine EX.imp h2 (fun E2 h3 => ⟨by simp, by rw [List.length_append]; exact h3⟩) fun _ _ z => z
  · rintro E ⟨e, hi⟩
    exact hN E hi

theorem FL_rng {i : Nat} {lo c : Int} {n : Nat} {body E N R} (I : Nat → En → Prop) (h0 : I 0 E) (hs : ∀ k E, k < n → I k E → W.EX Φ body (E.set i (some (.int (lo + (k : Int) * c), .deep))) (fun E2 => I (k + 1) E2) R) (hN : ∀ E, I n E → N E) : W.FL Φ (.v i) body (rng lo c 0 n) E N R := by
  refine FL_ix I h0 (fun k E h hi => ?_) (fun E h => hN E (by rw [rng_length] at h; exact h))
  rw [rng_get h]
  rw [rng_length] at h
  refine OP_of rfl ?_
  have := hs k E h hi
  rw [Nat.zero_add]
  exact this

theorem FL_r1 {i : Nat} {lo : Int} {n : Nat} {body E N R} (I : Nat → En → Prop) (h0 : I 0 E) (hs : ∀ k E, k < n → I k E → W.EX Φ body (E.set i (some (.int (lo + (k : Int)), .deep))) (fun E2 => I (k + 1) E2) R) (hN : ∀ E, I n E → N E) : W.FL Φ (.v i) body (rng lo 1 0 n) E N R :=
  FL_rng I h0 (fun k E h hi => by rw [Int.mul_one]; exact hs k E h hi) hN

theorem FL_r0 {i : Nat} {n : Nat} {body E N R} (I : Nat → En → Prop) (h0 : I 0 E) (hs : ∀ k E, k < n → I k E → W.EX Φ body (E.set i (some (.int (k : Int), .deep))) (fun E2 => I (k + 1) E2) R) (hN : ∀ E, I n E → N E) : W.FL Φ (.v i) body (rng 0 1 0 n) E N R :=
  FL_r1 I h0 (fun k E h hi => by rw [Int.zero_add]; exact hs k E h hi) hN

theorem wipes_get (is : List Nat) (E : En) (j : Nat) : (wipes is E)[j]? = if j ∈ is then (E[j]?).map fun _ => none else E[j]? := by
  induction is with
  | nil => simp [wipes]
  | cons i is ih =>
    simp only [wipes, List.getElem?_set, List.mem_cons]
    by_cases h : i = j
    · subst h
      have hl : (wipes is E).length = E.length := by
        clear ih
        induction is with
        | nil => rfl
        | cons a b ih => simp [wipes, ih]
      simp only [if_true, hl, true_or]
      by_cases hj : i < E.length
      · simp [hj]
      · simp [hj]
    · rw [if_neg h, ih]
      have : j ≠ i := fun e => h e.symm
      simp [this]
theorem wipesLen (is : List Nat) (E : En) : (wipes is E).length = E.length := by
  induction is with
  | nil => rfl
  | cons a b ih => simp [wipes, ih]
theorem back_get (is : List Nat) (E0 E : En) (hl : E.length = E0.length) (h : ∀ j, j ∉ is → E[j]? = E0[j]?) : back is E0 E = E0 := by
  have key : ∀ (is : List Nat) (j : Nat), (back is E0 E)[j]? = if j ∈ is then E0[j]? else E[j]? := by
    intro is
    induction is with
    | nil => simp [back]
    | cons i is ih =>
      intro j
      have hl' : (back is E0 E).length = E0.length := by
        clear ih
        induction is with
        | nil => exact hl
        | cons a b ih => simp [back, ih]
      simp only [back, List.getElem?_set, List.mem_cons]
      by_cases e : i = j
      · subst e
        rw [if_pos rfl, hl']
        by_cases hj : i < E0.length
        · simp [hj]
        · simp [hj, List.getElem?_eq_none_iff.mpr (Nat.le_of_not_lt hj)]
      · rw [if_neg e, ih]
        have : j ≠ i := fun z => e z.symm
        simp [this]
  apply List.ext_getElem?
  intro j
  rw [key]
  split
  · rfl
  · exact h j ‹_›
theorem binds_off : ∀ (is : List Nat) (ds : List D) (w : Ow) (E E1 : En), binds is ds w E = some E1 → E1.length = E.length ∧ ∀ j, j ∉ is → E1[j]? = E[j]?
  | [], [], w, E, E1, h => by cases h; exact ⟨rfl, fun _ _ => rfl⟩
  | i :: is, d :: ds, w, E, E1, h => by
    have := binds_off is ds w _ E1 h
    refine ⟨by rw [this.1]; simp, fun j hj => ?_⟩
    rw [this.2 j (fun z => hj (.tail _ z)), List.getElem?_set]
    rw [if_neg fun e => hj (by subst e; exact .head _)]
  | [], _ :: _, _, _, _, h => by cases h
  | _ :: _, [], _, _, _, h => by cases h
theorem bindT_off {tg : Tg} {x : Val} {E E1 : En} (h : bindT tg x E = some E1) : E1.length = E.length ∧ ∀ j, j ∉ tgs tg → E1[j]? = E[j]? := by
  cases tg with
  | v i =>
    cases h
    refine ⟨by simp, fun j hj => ?_⟩
    rw [List.getElem?_set, if_neg]
    intro e
    subst e
    exact hj (.head _)
  | t is =>
    obtain ⟨d, w⟩ := x
    cases d with
    | tup ds =>
      simp only [bindT] at h
      split at h
      · exact binds_off _ _ _ _ _ h
      · cases h
    | lst ds =>
      simp only [bindT] at h
      split at h
      · exact binds_off _ _ _ _ _ h
      · cases h
    | _ => simp only [bindT, reduceCtorEq] at h

theorem CP_pure {α : Type} {shr elt tg cond E} {xs : List α} {K : List D → En → Prop} (f : α → D) (p : α → Bool) (g : α → D)
    (h : ∀ x ∈ xs, OP (bindT tg (shv (f x)) (wipes (tgs tg) E)) fun E1 => W.EV Φ cond E1 fun c E2 => c.1 = .bl (p x) ∧ E2 = E1 ∧ (p x = true → W.EV Φ elt E1 fun y E3 => ESC elt y E3 fun y E4 => E4 = E1 ∧ (plain y.1 || shr || decide (y.2 = .deep)) = true ∧ y.1 = g x))
    (k : K ((xs.filter p).map g) E) :
    W.CP Φ shr elt tg cond (xs.map f) E [] fun acc E2 => PUT (back (tgs tg) E E2) fun E3 => K acc E3 := by
  have key : ∀ (b a : List α) (E0 : En), xs = a ++ b → E0.length = E.length → (∀ j, j ∉ tgs tg → E0[j]? = E[j]?) → CP Φ shr elt tg cond (b.map f) E0 ((a.filter p).map g) fun acc E2 => K acc (back (tgs tg) E E2) := by
    intro b
    induction b with
    | nil =>
      intro a E0 e hl0 h0
      rw [List.append_nil] at e
      subst e
      refine CP_nil.mpr ?_
      rw [back_get _ _ _ hl0 h0]
      exact k
    | cons x b ih =>
      intro a E0 e hl0 h0
      have hw : wipes (tgs tg) E0 = wipes (tgs tg) E := by
        apply List.ext_getElem?
        intro j
        rw [wipes_get, wipes_get]
        split
        · by_cases hj : j < E.length
          · rw [List.getElem?_eq_getElem hj, List.getElem?_eq_getElem (by omega)]; rfl
          · rw [List.getElem?_eq_none_iff.mpr (by omega), List.getElem?_eq_none_iff.mpr (by omega)]
        · exact h0 j ‹_›
      obtain ⟨E1, h1, h2⟩ := h x (by subst e; simp)
      have off := bindT_off h1
      have hl1 : E1.length = E.length := by rw [off.1, wipesLen]
      have h01 : ∀ j, j ∉ tgs tg → E1[j]? = E[j]? := fun j hj => by rw [off.2 j hj, wipes_get, if_neg hj]
      have hnext := ih (a ++ [x]) E1 (by subst e; simp) hl1 h01
      refine CP_cons ⟨E1, by rw [hw]; exact h1, ?_⟩
      obtain ⟨c, E2, h3, h4, h5, h6⟩ := h2
      subst h5
      refine ⟨c, E2, h3, ?_⟩
      cases hp : p x with
      | true =>
        rw [hp] at h4
        obtain ⟨y, E3, h7, h8⟩ := h6 hp
        refine .inl ⟨h4, y, E3, h7, h8.2.1, ?_⟩
        rw [h8.1, h8.2.2]
        rw [List.filter_append, List.map_append] at hnext
        simpa [hp] using hnext
      | false =>
        rw [hp] at h4
        refine .inr ⟨h4, ?_⟩
        rw [List.filter_append, List.map_append] at hnext
        simpa [hp] using hnext
  exact key xs [] E rfl rfl fun _ _ => rfl
end
end BS

set_option Elab.async false
set_option linter.all false
set_option maxRecDepth 100000
set_option maxHeartbeats 2000000

namespace BS
open PySem L2
abbrev S (l : List Nat) : Str := ⟨l.toArray⟩
def tx (l : List Nat) : D := .str (S l)
theorem S_inj {a b : List Nat} : S a = S b ↔ a = b := ⟨SX.S_inj, fun e => by rw [e]⟩
theorem S_len {a : List Nat} : (S a).length = a.length := SX.S_len a
theorem S_cat {a b : List Nat} : S a ++ S b = S (a ++ b) := SX.S_cat a b
theorem plain_tx {a} : plain (tx a) = true := plain_str
theorem kplain_tx {a} : kplain (tx a) = true := rfl
theorem scalar_tx {a} : scalar (tx a) = true := rfl
theorem vl_tx {a w} : vl (tx a) w = (tx a, .deep) := vl_t plain_tx
theorem isNon_tx {a} : isNon (tx a) = false := rfl
theorem isDicD_tx {a} : isDicD (tx a) = false := rfl
theorem isiOk_tx {a} : isiOk (tx a) = true := rfl
theorem ty_tx_str {a} : tyOf .str (tx a) = true := rfl
theorem ty_tx_int {a} : tyOf .int (tx a) = false := rfl
theorem ty_tx_bool {a} : tyOf .bool (tx a) = false := rfl
theorem ty_tx_list {a} : tyOf .list (tx a) = false := rfl
theorem ty_tx_tuple {a} : tyOf .tuple (tx a) = false := rfl
theorem ty_tx_dict {a} : tyOf .dict (tx a) = false := rfl
theorem len_tx {a} : lenD (tx a) = some (a.length : Int) := by unfold tx; rw [len_str, S_len]
theorem item_tx {a i} : item (tx a) (.int i) = (atI a i).map fun c => tx [c] := by unfold tx; rw [item_str']
theorem a2_addt {a b} : app2 .add (tx a) (tx b) = if a.length + b.length ≤ line then some (tx (a ++ b)) else none := by
  unfold tx; rw [a2_adds, S_len, S_len, S_cat]
theorem deq_tx {a b} : deq (tx a) (tx b) = decide (a = b) := by
  unfold tx
  rw [deq_str]
  by_cases h : a = b
  · rw [decide_eq_true h, decide_eq_true (by rw [h])]
  · rw [decide_eq_false h, decide_eq_false fun e => h (SX.S_inj e)]
theorem a2_eqt {a b} : app2 .eq (tx a) (tx b) = some (.bl (decide (a = b))) := by rw [a2_eq, deq_tx]; rfl
theorem a2_net {a b} : app2 .ne (tx a) (tx b) = some (.bl (!decide (a = b))) := by rw [a2_ne, deq_tx]; rfl
theorem strsOf_tx {l : List (List Nat)} : strsOf (l.map tx) = some (l.map S) := by
  induction l with
  | nil => rfl
  | cons a l ih => rw [List.map_cons, List.map_cons]; unfold tx; rw [strsOf]; rw [show strsOf (List.map (fun l => D.str (S l)) l) = some (l.map S) from ih]; rfl
theorem a2_join {a} {l : List (List Nat)} : app2 .join (tx a) (.lst (l.map tx)) = if (l.map List.length).sum + l.length * a.length ≤ line then some (tx (TL.joinL a l)) else none := by
  show (match strsOf (l.map tx) with | some ys => if (List.map (fun (x : Str) => x.length) ys).sum + ys.length * (S a).length ≤ line then some (D.str (Txt.join (S a) ys)) else none | none => none) = _
  rw [strsOf_tx]
  simp only [List.map_map, List.length_map, S_len]
  have e : (fun x => Str.length x) ∘ S = List.length := by funext x; exact S_len
  rw [e, show (l.map S) = l.map SX.S from rfl, SX.join_S]
  rfl
theorem joinL_nil : ∀ l : List (List Nat), TL.joinL [] l = l.flatten
  | [] => rfl
  | [p] => by simp [TL.joinL]
  | p :: q :: r => by rw [TL.joinL, joinL_nil (q :: r)]; simp
theorem a2_joine {l : List (List Nat)} : app2 .join (tx []) (.lst (l.map tx)) = if (l.map List.length).sum ≤ line then some (tx l.flatten) else none := by
  rw [a2_join, joinL_nil]
  simp
theorem a2_mult {a k} : app2 .mul (tx a) (.int k) = if 0 ≤ k ∧ k < 2 ^ 62 ∧ a.length * k.toNat ≤ line then some (tx (List.replicate k.toNat a).flatten) else none := by
  unfold tx
  rw [a2_muls, S_len]
  have e : srep (S a) k = S (List.replicate k.toNat a).flatten := by
    unfold srep
    split
    · have : k.toNat = 0 := by omega
      rw [this]; rfl
    · split
      · rename_i h1 h2
        rw [Bool.or_eq_true] at h2
        rcases h2 with h2 | h2
        · have : k = 1 := by simpa using h2
          subst this
          simp
        · have : a = [] := by
            have := S_len (a := a)
            have h3 : (S a).length = 0 := by simpa using h2
            rw [this] at h3
            exact List.length_eq_zero_iff.mp h3
          subst this
          simp
      · have key : ∀ (n : Nat) (acc : List Nat), ((List.replicate n (S a).cps).foldl (· ++ ·) acc.toArray) = (acc ++ (List.replicate n a).flatten).toArray := by
          intro n
          induction n with
          | zero => intro acc; simp
          | succ n ih => intro acc; simp only [List.replicate_succ, List.foldl_cons, List.flatten_cons, List.append_toArray]; rw [ih]; simp
        have := key k.toNat []
        simp only [List.nil_append] at this
        unfold S
        rw [← this]
  rw [e]
theorem it_tx {a} : items .of [tx a] = some (a.map fun c => tx [c]) := by
  show some (chars (S a)) = _
  unfold chars tx
  rfl
theorem slD_tx {lo hi a w} : slD lo hi (tx a) w = some (tx ((a.drop (HT.sIx a.length 0 lo)).take (HT.sIx a.length a.length hi - HT.sIx a.length 0 lo)), .deep) := by
  show some (D.str (cutS (S a) lo hi), Ow.deep) = _
  unfold cutS tx
  rw [S_len]
theorem a2_ins {c : Nat} {z : List Nat} : app2 .In (tx [c]) (tx z) = some (.bl (decide (c ∈ z))) := rfl
theorem a2_nins {c : Nat} {z : List Nat} : app2 .NotIn (tx [c]) (tx z) = some (.bl (!decide (c ∈ z))) := rfl

theorem wipes_nil {E : En} : wipes [] E = E := rfl
theorem wipes_cons {i is} {E : En} : wipes (i :: is) E = (wipes is E).set i none := rfl
theorem back_nil {E0 E : En} : back [] E0 E = E := rfl
theorem back_cons {i is} {E0 E : En} : back (i :: is) E0 E = (back is E0 E).set i (E0.getD i none) := rfl
def KP : Nat → En → Bool
  | _, [] => false
  | 0, none :: _ => true
  | 0, some (d, w) :: _ => plain d || decide (w = .sh)
  | i + 1, _ :: E => KP i E
theorem KP_n {E} : KP 0 (none :: E) = true := rfl
theorem KP_d {d E} : KP 0 (some (d, .deep) :: E) = plain d := by simp [KP]
theorem KP_t {d E} : KP 0 (some (d, .top) :: E) = plain d := by simp [KP]
theorem KP_h {d E} : KP 0 (some (d, .sh) :: E) = true := by simp [KP]
theorem KP_s {i a E} : KP (i + 1) (a :: E) = KP i E := by rw [KP]
theorem KP_eq : ∀ (i : Nat) (E : En), (match E[i]? with | some (some (d, w)) => plain d || decide (w = .sh) | some none => true | none => false) = KP i E
  | i, [] => by simp [KP]
  | 0, none :: _ => rfl
  | 0, some (d, w) :: _ => rfl
  | i + 1, a :: E => by rw [KP_s, ← KP_eq i E]; rfl
theorem keepNil {E} : keepable [] E = true := rfl
theorem keepCons {i is E} : keepable (i :: is) E = (KP i E && keepable is E) := by
  unfold keepable
  rw [List.all_cons]
  exact congrArg (fun b => b && _) (KP_eq i E)
theorem shv_d {d} : shv d = vl d .sh := rfl
theorem getD_z {a : Option Val} {E : En} : (a :: E).getD 0 none = a := rfl
theorem getD_s {i} {a : Option Val} {E : En} : (a :: E).getD (i + 1) none = E.getD i none := rfl
theorem plains_map {α : Type} {f : α → D} {l : List α} (h : ∀ x ∈ l, plain (f x) = true) : plains (l.map f) = true := by
  induction l with
  | nil => rw [List.map_nil, plains_nil]
  | cons a l ih => rw [List.map_cons, plains_cons, h a (.head _), ih fun x hx => h x (.tail _ hx)]; rfl
theorem plains_tx {l : List (List Nat)} : plains (l.map tx) = true := plains_map fun _ _ => plain_tx
theorem plains_ints {l : List Int} : plains (l.map D.int) = true := plains_map fun _ _ => plain_int
theorem scalars_map {α : Type} {f : α → D} {l : List α} (h : ∀ x ∈ l, scalar (f x) = true) : scalars (l.map f) = true := by
  induction l with
  | nil => rw [List.map_nil, scalars_nil]
  | cons a l ih => rw [List.map_cons, scalars_cons, h a (.head _), ih fun x hx => h x (.tail _ hx)]; rfl
theorem scalars_tx {l : List (List Nat)} : scalars (l.map tx) = true := scalars_map fun _ _ => scalar_tx
theorem scalars_ints {l : List Int} : scalars (l.map D.int) = true := scalars_map fun _ _ => rfl
theorem filt_true {α : Type} {l : List α} : l.filter (fun _ => true) = l := List.filter_eq_self.mpr fun _ _ => rfl
theorem atI_map {α β : Type} {f : α → β} {l : List α} {i : Int} : atI (l.map f) i = (atI l i).map f := by
  unfold atI
  rw [List.length_map]
  cases ixN l.length i with
  | none => rfl
  | some j => simp
theorem sIx_n {n d : Nat} : HT.sIx n d none = d := rfl
theorem sIx_s {n d : Nat} {v : Int} : HT.sIx n d (some v) = if v < 0 then (v + (n : Int)).toNat else min v.toNat n := rfl
theorem slD_l {lo hi xs w} : slD lo hi (.lst xs) w = some (newLst ((xs.drop (HT.sIx xs.length 0 lo)).take (HT.sIx xs.length xs.length hi - HT.sIx xs.length 0 lo)) w) := rfl
theorem slD_t {lo hi xs w} : slD lo hi (.tup xs) w = if HT.sIx xs.length 0 lo = 0 ∧ HT.sIx xs.length xs.length hi = xs.length then none else some (vl (.tup ((xs.drop (HT.sIx xs.length 0 lo)).take (HT.sIx xs.length xs.length hi - HT.sIx xs.length 0 lo))) w) := rfl
theorem drop_map {α β : Type} {f : α → β} {l : List α} {i : Nat} : (l.map f).drop i = (l.drop i).map f := List.map_drop.symm
theorem take_map {α β : Type} {f : α → β} {l : List α} {i : Nat} : (l.map f).take i = (l.take i).map f := List.map_take.symm

def EQk {α : Type} (n : Nat) (f : α → D) : Prop := (∀ a, shp n (f a) = true) ∧ ∀ a b, deq (f a) (f b) = true ↔ a = b
theorem EQk.tx {n} : EQk n tx := ⟨fun _ => by cases n <;> rfl, fun a b => by rw [deq_tx, decide_eq_true_eq]⟩
theorem EQk.int {n} : EQk n D.int := ⟨fun _ => by cases n <;> rfl, fun a b => by rw [deq_int, decide_eq_true_eq]⟩
theorem EQk.bl {n} : EQk n D.bl := ⟨fun _ => by cases n <;> rfl, fun a b => by rw [deq_bl, beq_iff_eq]⟩
theorem deqs_map {α : Type} {f : α → D} (h : ∀ a b, deq (f a) (f b) = true ↔ a = b) : ∀ {l m : List α}, deqs (l.map f) (m.map f) = true ↔ l = m
  | [], [] => by simp [deqs]
  | [], _ :: _ => by simp [deqs]
  | _ :: _, [] => by simp [deqs]
  | a :: l, b :: m => by
    rw [List.map_cons, List.map_cons, deqs, Bool.and_eq_true, h, deqs_map h]
    simp
theorem shps_map {α : Type} {f : α → D} {n : Nat} (h : ∀ a, shp n (f a) = true) : ∀ {l : List α}, shps n (l.map f) = true
  | [] => by simp [shps]
  | a :: l => by rw [List.map_cons, shps, h, shps_map h]; rfl
theorem EQk.lst {α : Type} {f : α → D} {n : Nat} (h : EQk n f) : EQk (n + 1) fun l : List α => D.lst (l.map f) := ⟨fun l => by rw [shp]; exact shps_map h.1, fun a b => by rw [deq]; exact deqs_map h.2⟩
theorem EQk.t2 {α β : Type} {f : α → D} {g : β → D} {n : Nat} (h : EQk n f) (h2 : EQk n g) : EQk (n + 1) fun p : α × β => D.tup [f p.1, g p.2] := ⟨fun l => by rw [shp, shps, shps, shps, h.1, h2.1]; rfl, fun a b => by
  rw [deq, deqs, deqs, deqs, Bool.and_eq_true, Bool.and_eq_true, h.2, h2.2]
  simp [Prod.ext_iff]⟩
theorem EQk.t3 {α β γ : Type} {f : α → D} {g : β → D} {k : γ → D} {n : Nat} (h : EQk n f) (h2 : EQk n g) (h3 : EQk n k) : EQk (n + 1) fun p : α × β × γ => D.tup [f p.1, g p.2.1, k p.2.2] := ⟨fun l => by rw [shp, shps, shps, shps, shps, h.1, h2.1, h3.1]; rfl, fun a b => by
  rw [deq, deqs, deqs, deqs, deqs, Bool.and_eq_true, Bool.and_eq_true, Bool.and_eq_true, h.2, h2.2, h3.2]
  simp [Prod.ext_iff]⟩
theorem EQk.eq {α : Type} {f : α → D} [DecidableEq α] (h : EQk 30 f) {a b : α} : app2 .eq (f a) (f b) = some (.bl (decide (a = b))) := by
  rw [a2_eq, h.1, h.1]
  simp only [Bool.and_self, if_true]
  congr 2
  rw [Bool.eq_iff_iff, h.2, decide_eq_true_eq]
theorem EQk.ne {α : Type} {f : α → D} [DecidableEq α] (h : EQk 30 f) {a b : α} : app2 .ne (f a) (f b) = some (.bl (!decide (a = b))) := by
  rw [a2_ne, h.1, h.1]
  simp only [Bool.and_self, if_true]
  congr 3
  rw [Bool.eq_iff_iff, h.2, decide_eq_true_eq]
theorem a2_eqlt {a b : List (List Nat)} : app2 .eq (.lst (a.map tx)) (.lst (b.map tx)) = some (.bl (decide (a = b))) := (EQk.lst (n := 29) EQk.tx).eq
theorem a2_nelt {a b : List (List Nat)} : app2 .ne (.lst (a.map tx)) (.lst (b.map tx)) = some (.bl (!decide (a = b))) := (EQk.lst (n := 29) EQk.tx).ne
theorem a2_eqli {a b : List Int} : app2 .eq (.lst (a.map D.int)) (.lst (b.map D.int)) = some (.bl (decide (a = b))) := (EQk.lst (n := 29) EQk.int).eq
theorem a2_neli {a b : List Int} : app2 .ne (.lst (a.map D.int)) (.lst (b.map D.int)) = some (.bl (!decide (a = b))) := (EQk.lst (n := 29) EQk.int).ne
theorem a2_eql0 {a : List D} : app2 .eq (.lst a) (.lst []) = if shps 29 a = true then some (.bl a.isEmpty) else none := by
  rw [a2_eq]
  have e1 : shp 30 (.lst a) = shps 29 a := by rw [shp]
  have e2 : shp 30 (.lst []) = true := by simp [shp, shps]
  have e3 : deq (.lst a) (.lst []) = a.isEmpty := by cases a <;> simp [deq, deqs]
  rw [e1, e2, e3, Bool.and_true]
theorem a2_nel0 {a : List D} : app2 .ne (.lst a) (.lst []) = if shps 29 a = true then some (.bl (!a.isEmpty)) else none := by
  rw [a2_ne]
  have e1 : shp 30 (.lst a) = shps 29 a := by rw [shp]
  have e2 : shp 30 (.lst []) = true := by simp [shp, shps]
  have e3 : deq (.lst a) (.lst []) = a.isEmpty := by cases a <;> simp [deq, deqs]
  rw [e1, e2, e3, Bool.and_true]
theorem shps_tx {n} {l : List (List Nat)} : shps n (l.map tx) = true := shps_map EQk.tx.1
theorem shps_ints {n} {l : List Int} : shps n (l.map D.int) = true := shps_map EQk.int.1
theorem isEmpty_map {α β : Type} {f : α → β} {l : List α} : (l.map f).isEmpty = l.isEmpty := by cases l <;> rfl

def dn (m : Nat) : D := .int (m : Int)
theorem dn_int {m : Nat} : dn m = .int (m : Int) := rfl
theorem plains_dn {l : List Nat} : plains (l.map dn) = true := plains_map fun _ _ => plain_int
theorem scalars_dn {l : List Nat} : scalars (l.map dn) = true := scalars_map fun _ _ => rfl
theorem EQk.dn {n} : EQk n dn := ⟨fun _ => by cases n <;> rfl, fun a b => by unfold BS.dn; rw [deq_int, decide_eq_true_eq]; omega⟩
theorem shps_dn {n} {l : List Nat} : shps n (l.map dn) = true := shps_map EQk.dn.1
theorem a2_eqld {a b : List Nat} : app2 .eq (.lst (a.map dn)) (.lst (b.map dn)) = some (.bl (decide (a = b))) := (EQk.lst (n := 29) EQk.dn).eq
theorem a2_neld {a b : List Nat} : app2 .ne (.lst (a.map dn)) (.lst (b.map dn)) = some (.bl (!decide (a = b))) := (EQk.lst (n := 29) EQk.dn).ne
theorem a1_intt {l : List Nat} : app1 .int (tx l) = if l.length ≤ 640 then (PySem.intText? (S l)).map .int else none := by
  show (if (S l).length ≤ 640 then (PySem.intText? (S l)).map D.int else none) = _
  rw [S_len]
theorem intT0 : PySem.intText? (S [48]) = some 0 := by decide +kernel
theorem intT1 : PySem.intText? (S [49]) = some 1 := by decide +kernel
theorem sumD_map {l : List Int} : sumD (l.map D.int) = some l.sum := by
  induction l with
  | nil => rfl
  | cons a l ih => rw [List.map_cons, sumD, ih, List.sum_cons]; rfl
theorem sumD_dn {l : List Nat} : sumD (l.map dn) = some (l.sum : Nat) := by
  induction l with
  | nil => rfl
  | cons a l ih => rw [List.map_cons, List.sum_cons]; unfold dn; rw [sumD]; rw [show sumD (List.map (fun m : Nat => D.int (m : Int)) l) = _ from ih]; simp
theorem intsOf_map {l : List Int} : intsOf (l.map D.int) = some l := by
  induction l with
  | nil => rfl
  | cons a l ih => rw [List.map_cons, intsOf, ih]; rfl
theorem a1_sum {l : List Int} : app1 .sum (.lst (l.map D.int)) = some (.int l.sum) := by
  show (sumD (l.map D.int)).map D.int = _
  rw [sumD_map]; rfl
theorem a1_sumd {l : List Nat} : app1 .sum (.lst (l.map dn)) = some (.int (l.sum : Nat)) := by
  show (sumD (l.map dn)).map D.int = _
  rw [sumD_dn]; rfl
theorem a2_count {l : List Int} {i : Int} : app2 .count (.lst (l.map D.int)) (.int i) = some (.int (l.count i : Nat)) := by
  show (intsOf (l.map D.int)).map _ = _
  rw [intsOf_map]; rfl
theorem plainsApp : ∀ {a b : List D}, plains (a ++ b) = (plains a && plains b)
  | [], b => by rw [List.nil_append, plains_nil, Bool.true_and]
  | x :: a, b => by rw [List.cons_append, plains_cons, plains_cons, plainsApp, Bool.and_assoc]
theorem app_map {α β : Type} {f : α → β} {a b : List α} : a.map f ++ b.map f = (a ++ b).map f := List.map_append.symm
theorem set_dn {l : List Nat} {k x : Nat} : (l.map dn).set k (.int (x : Int)) = (l.set k x).map dn := (List.map_set (f := dn)).symm
theorem set_tx {l : List (List Nat)} {k : Nat} {x : List Nat} : (l.map tx).set k (tx x) = (l.set k x).map tx := (List.map_set (f := tx)).symm
theorem set_int {l : List Int} {k : Nat} {x : Int} : (l.map D.int).set k (.int x) = (l.set k x).map D.int := (List.map_set (f := D.int)).symm
theorem cast_lit {n : Nat} : ((no_index (OfNat.ofNat n) : Nat) : Int) = OfNat.ofNat n := rfl
theorem a2_eqb {a b : Bool} : app2 .eq (.bl a) (.bl b) = some (.bl (decide (a = b))) := EQk.bl.eq
theorem a2_neb {a b : Bool} : app2 .ne (.bl a) (.bl b) = some (.bl (!decide (a = b))) := EQk.bl.ne
theorem line_def : line = 16777216 := rfl
theorem OP_mem {α : Type} {xs : List α} {i : Int} {K : α → Prop} (h0 : 0 ≤ i) (h1 : i < xs.length) (k : ∀ x ∈ xs, K x) : OP (atI xs i) K := OP_of (atI_of h0 h1) (k _ (List.getElem_mem _))
end BS

set_option Elab.async false
set_option linter.all false
set_option maxRecDepth 100000
set_option maxHeartbeats 2000000

namespace BS
open PySem L2
section
variable {Φ : Phi}
theorem W_dct {es E P} : W.EV Φ (.dct es) E P ↔ W.EVs Φ es E fun xs E1 => OP (pairUp (ds xs)) fun kvs => keysOk kvs = true ∧ P (.dic false kvs, if allDeep xs = true then .deep else .top) E1 := by
  show EV Φ (.dct es) E P ↔ EVs Φ es E _
  unfold EV EVs OP
  simp only [ev, Option.bind_eq_bind, Option.bind_eq_some_iff, Prod.exists]
  constructor
  · rintro ⟨d, w, E', ⟨xs, E1, h1, kvs, h2, h3⟩, p⟩
    split at h3
    · rename_i hc
      simp only [Option.some.injEq, Prod.mk.injEq] at h3
      obtain ⟨⟨rfl, rfl⟩, rfl⟩ := h3
      exact ⟨xs, E1, h1, kvs, h2, hc, p⟩
    · cases h3
  · rintro ⟨xs, E1, h1, kvs, h2, hc, p⟩
    exact ⟨_, _, _, ⟨xs, E1, h1, kvs, h2, if_pos hc⟩, p⟩
def fnOf : D → Option Nat
  | .fn g => some g
  | _ => none
theorem fnOf_fn {g} : fnOf (.fn g) = some g := rfl
theorem W_callv {f es E P} : W.EV Φ (.callv f es) E P ↔ W.EV Φ f E fun x E1 => OP (fnOf x.1) fun g => W.EVa Φ es E1 fun as E2 => W.GA as E2 fun vs E3 => W.CL Φ g vs fun r os => PUT (scat as os E3) fun E4 => P r E4 := by
  show EV Φ (.callv f es) E P ↔ EV Φ f E _
  have key : ∀ g E1, (∃ as E2, eva Φ es E1 = some (as, E2) ∧ GA as E2 fun vs E3 => CL Φ g vs fun r os => P r (scat as os E3)) ↔ EV Φ (.call g es) E1 P := fun g E1 => EV_call.symm
  unfold EV at *
  simp only [ev, Option.bind_eq_bind, Option.bind_eq_some_iff, Prod.exists] at key ⊢
  constructor
  · rintro ⟨d, w, E', ⟨xd, xw, E1, h1, h2⟩, p⟩
    cases xd with
    | fn g =>
      refine ⟨.fn g, xw, E1, h1, g, rfl, ?_⟩
      exact (key g E1).mpr ⟨d, w, E', by simpa only [Option.bind_eq_bind, Option.bind_eq_some_iff, Prod.exists] using h2, p⟩
    | _ => cases h2
  · rintro ⟨xd, xw, E1, h1, g, hg, h2⟩
    cases xd with
    | fn g' =>
      cases hg
      obtain ⟨d, w, E', h3, p⟩ := (key g E1).mp h2
      exact ⟨d, w, E', ⟨_, _, _, h1, by simpa only [Option.bind_eq_bind, Option.bind_eq_some_iff, Prod.exists] using h3⟩, p⟩
    | _ => cases hg
end
theorem pairUp_nil : pairUp [] = some [] := rfl
theorem pairUp_cons {k v r} : pairUp (k :: v :: r) = (pairUp r).map ((k, v) :: ·) := rfl
def kdist : List (D × D) → Bool
  | [] => true
  | (k, _) :: r => keyOk false k && (!dhas r k && kdist r)
theorem keqKey {a b : D} {k l : Key} (h : keyD a = some k) (h' : keyD b = some l) : keq a b = decide (k = l) := by
  cases a <;> simp only [keyD, Option.some.injEq, reduceCtorEq] at h <;> cases b <;> simp only [keyD, Option.some.injEq, reduceCtorEq] at h' <;> subst h <;> subst h' <;> simp [keq]
theorem keysOk_eq {kvs : List (D × D)} : keysOk kvs = (kdist kvs && decide (kvs.length ≤ 15)) := by
  have key : ∀ kvs : List (D × D), (match keyL (kvs.map (·.1)) with | some ks => decide ks.Nodup | none => false) = kdist kvs ∧ ∀ (k : D) (l : Key) ks, keyD k = some l → keyL (kvs.map (·.1)) = some ks → (dhas kvs k = true ↔ l ∈ ks) := by
    intro kvs
    induction kvs with
    | nil => refine ⟨rfl, fun k l ks h1 h2 => ?_⟩; simp only [List.map_nil, keyL, Option.some.injEq] at h2; subst h2; simp [dhas]
    | cons a r ih =>
      obtain ⟨k, v⟩ := a
      obtain ⟨ih1, ih2⟩ := ih
      simp only [List.map_cons, keyL]
      cases e1 : keyD k with
      | none =>
        refine ⟨by simp [kdist, keyOk, e1], fun _ _ _ _ h => by simp at h⟩
      | some l =>
        cases e2 : keyL (r.map (·.1)) with
        | none =>
          rw [e2] at ih1
          refine ⟨by simp [kdist, ← ih1], fun _ _ _ _ h => by simp at h⟩
        | some ks =>
          rw [e2] at ih1
          have e3 := ih2 k l ks e1 e2
          refine ⟨?_, fun k' l' ks' h1 h2 => ?_⟩
          · show decide (l :: ks).Nodup = (keyOk false k && (!dhas r k && kdist r))
            have e5 : keyOk false k = true := by simp [keyOk, e1]
            rw [e5, ← ih1, Bool.true_and]
            cases e4 : dhas r k with
            | true =>
              have := e3.mp e4
              simp [List.nodup_cons, this]
            | false =>
              have : ¬ l ∈ ks := fun z => by rw [e3.mpr z] at e4; cases e4
              simp [List.nodup_cons, this]
          · simp only [Option.some.injEq] at h2
            subst h2
            have e4 := ih2 k' l' ks h1 e2
            have e5 : dhas ((k, v) :: r) k' = (keq k k' || dhas r k') := rfl
            rw [e5, Bool.or_eq_true, e4, keqKey e1 h1, decide_eq_true_eq, List.mem_cons]
            exact ⟨fun z => z.imp (fun e => e.symm) id, fun z => z.imp (fun e => e.symm) id⟩
  have k1 := (key kvs).1
  unfold keysOk
  cases e : keyL (kvs.map (·.1)) with
  | none => rw [e] at k1; simp [← k1]
  | some ks => rw [e] at k1; simp [← k1]
theorem kdist_nil : kdist [] = true := rfl
theorem kdist_cons {k v r} : kdist ((k, v) :: r) = (keyOk false k && (!dhas r k && kdist r)) := rfl
theorem dhas_nil {k} : dhas [] k = false := rfl
theorem dhas_cons {a v r k} : dhas ((a, v) :: r) k = (keq a k || dhas r k) := rfl
theorem keq_int {i j} : keq (.int i) (.int j) = decide (i = j) := by rw [keq]
theorem keq_tx {a b} : keq (tx a) (tx b) = decide (a = b) := by
  unfold tx
  rw [keq]
  by_cases h : a = b
  · rw [decide_eq_true h, decide_eq_true (by rw [h])]
  · rw [decide_eq_false h, decide_eq_false fun e => h (SX.S_inj e)]
theorem keyOk_int {i} : keyOk false (.int i) = true := rfl
theorem keyOk_tx {a} : keyOk false (tx a) = true := rfl
theorem dget_nil {k} : dget [] k = none := rfl
theorem dget_cons {a v r k} : dget ((a, v) :: r) k = if keq a k = true then some v else dget r k := rfl
theorem vals_nil : vals [] = [] := rfl
theorem vals_cons {k v r} : vals ((k, v) :: r) = v :: vals r := rfl
def revD : Val → Option Val
  | (.lst xs, w) => if plains xs = true ∨ w ≠ .deep then some (newLst xs.reverse w) else none
  | _ => none
theorem W_opr {Φ : Phi} {a E P} : W.EV Φ (.opP .rev a) E P ↔ W.EV Φ a E fun x E1 => KESC a x E1 fun x E2 => OP (revD x) fun r => P r E2 := by
  show EV Φ (.opP .rev a) E P ↔ EV Φ a E _
  unfold EV KESC OP
  simp only [ev, Option.bind_eq_bind, Option.bind_eq_some_iff, Prod.exists]
  constructor
  · rintro ⟨d, w, E', ⟨x, w', E1, h1, h2⟩, p⟩
    refine ⟨x, w', E1, h1, ?_⟩
    generalize kesc a (x, w') E1 = k at *
    obtain ⟨⟨kd, kw⟩, E2⟩ := k
    cases kd with
    | lst xs =>
      simp only at h2
      split at h2
      · rename_i hc
        cases h2
        exact ⟨_, _, if_pos hc, p⟩
      · cases h2
    | _ => cases h2
  · rintro ⟨x, w', E1, h1, r, rw', h2, p⟩
    refine ⟨r, rw', (kesc a (x, w') E1).2, ⟨x, w', E1, h1, ?_⟩, p⟩
    generalize kesc a (x, w') E1 = k at *
    obtain ⟨⟨kd, kw⟩, E2⟩ := k
    cases kd with
    | lst xs =>
      simp only [revD] at h2
      split at h2
      · rename_i hc
        simp only [if_pos hc]
        cases h2
        rfl
      · cases h2
    | _ => cases h2
theorem rev_l {xs w} : revD (.lst xs, w) = if plains xs = true ∨ w ≠ .deep then some (newLst xs.reverse w) else none := rfl
theorem rev_map {α β : Type} {f : α → β} {l : List α} : (l.map f).reverse = l.reverse.map f := List.map_reverse.symm
theorem it_keystx {a} : items .keys [tx a] = some (a.map fun c => tx [c]) := it_tx
theorem zip0_map {α β : Type} {f : α → D} {g : β → D} : ∀ {l : List α} {m : List β}, zip0 (l.map f) (m.map g) = (l.zip m).map fun p => .tup [f p.1, g p.2]
  | [], _ => by simp [zip0]
  | _ :: _, [] => by simp [zip0]
  | a :: l, b :: m => by simp only [List.map_cons, zip0, List.zip_cons_cons]; rw [zip0_map]
theorem enum0_map {α : Type} {f : α → D} {l : List α} {n : Nat} : enum0 n (l.map f) = (l.zipIdx n).map fun p => .tup [.int (p.2 : Nat), f p.1] := by
  induction l generalizing n with
  | nil => rfl
  | cons a l ih => simp only [List.map_cons, enum0, List.zipIdx_cons]; rw [ih]
end BS

set_option Elab.async false
set_option linter.all false
set_option maxRecDepth 100000
set_option maxHeartbeats 2000000

namespace BS
open PySem L2
section
variable {Φ : Phi}
theorem W_mv {i E P} : W.EV Φ (.mv i) E P ↔ GS i E fun x => PUT (E.set i none) fun E' => P x E' := by
  show EV Φ (.mv i) E P ↔ _
  unfold EV GS PUT
  simp only [ev]
  cases hE : E[i]? with
  | none => simp
  | some o =>
    cases o with
    | none => simp
    | some x =>
      simp only [Option.some.injEq, exists_eq_left']
      exact ⟨fun ⟨_, _, h, p⟩ => by cases h; exact p, fun p => ⟨_, _, rfl, p⟩⟩
def tupD : D → Option D
  | .lst xs => if plains xs then some (.tup xs) else none
  | _ => none
theorem W_opT {a E P} : W.EV Φ (.opP .tuple a) E P ↔ W.EV Φ a E fun x E1 => OP (tupD x.1) fun d => P (d, .deep) E1 := by
  show EV Φ (.opP .tuple a) E P ↔ EV Φ a E _
  unfold EV OP
  simp only [ev, Option.bind_eq_bind, Option.bind_eq_some_iff, Prod.exists]
  constructor
  · rintro ⟨d, w, E', ⟨x, w', E1, h1, h2⟩, p⟩
    refine ⟨x, w', E1, h1, ?_⟩
    cases x with
    | lst xs =>
      simp only [Option.ite_none_right_eq_some, Option.some.injEq, Prod.mk.injEq] at h2
      obtain ⟨hc, ⟨rfl, rfl⟩, rfl⟩ := h2
      exact ⟨_, if_pos hc, p⟩
    | _ => simp at h2
  · rintro ⟨x, w', E1, h1, d, h2, p⟩
    cases x with
    | lst xs =>
      simp only [tupD, Option.ite_none_right_eq_some, Option.some.injEq] at h2
      obtain ⟨hc, rfl⟩ := h2
      exact ⟨_, _, _, ⟨_, _, _, h1, if_pos hc⟩, p⟩
    | _ => simp [tupD] at h2
theorem tupD_l {xs} : tupD (.lst xs) = if plains xs = true then some (.tup xs) else none := rfl
def dicD : Val → Option Val
  | (.lst xs, w) => match pairsD xs with
    | some kvs => if keysNd kvs && decide (xs.length ≤ line) then some (newDic kvs w) else none
    | none => none
  | (.dic false kvs, w) => some (newDic kvs w)
  | _ => none
theorem W_opD {a E P} : W.EV Φ (.opP .dict a) E P ↔ W.EV Φ a E fun x E1 => KESC a x E1 fun x E2 => OP (dicD x) fun r => P r E2 := by
  show EV Φ (.opP .dict a) E P ↔ EV Φ a E _
  unfold EV KESC OP
  simp only [ev, Option.bind_eq_bind, Option.bind_eq_some_iff, Prod.exists]
  constructor
  · rintro ⟨d, w, E', ⟨x, w', E1, h1, h2⟩, p⟩
    refine ⟨x, w', E1, h1, ?_⟩
    generalize kesc a (x, w') E1 = k at *
    obtain ⟨⟨kd, kw⟩, E2⟩ := k
    cases kd with
    | lst xs =>
      simp only at h2
      cases e : pairsD xs with
      | none => rw [e] at h2; cases h2
      | some kvs =>
        rw [e] at h2
        simp only [Option.ite_none_right_eq_some, Option.some.injEq, Prod.mk.injEq] at h2
        obtain ⟨hc, e2, rfl⟩ := h2
        refine ⟨d, w, ?_, p⟩
        simp only [dicD, e, hc, if_true, e2]
    | dic t kvs =>
      cases t with
      | true => simp at h2
      | false =>
        simp only [Option.some.injEq, Prod.mk.injEq] at h2
        obtain ⟨e2, rfl⟩ := h2
        exact ⟨d, w, by simp only [dicD, e2], p⟩
    | _ => simp at h2
  · rintro ⟨x, w', E1, h1, r, rw', h2, p⟩
    refine ⟨r, rw', (kesc a (x, w') E1).2, ⟨x, w', E1, h1, ?_⟩, p⟩
    generalize kesc a (x, w') E1 = k at *
    obtain ⟨⟨kd, kw⟩, E2⟩ := k
    cases kd with
    | lst xs =>
      simp only [dicD] at h2
      cases e : pairsD xs with
      | none => rw [e] at h2; cases h2
      | some kvs =>
        rw [e] at h2
        simp only [Option.ite_none_right_eq_some, Option.some.injEq] at h2
        obtain ⟨hc, e2⟩ := h2
        simp only [e, hc, if_true, e2]
    | dic t kvs =>
      cases t with
      | true => simp [dicD] at h2
      | false =>
        simp only [dicD, Option.some.injEq] at h2
        simp only [h2]
    | _ => simp [dicD] at h2
def srtR (a : Ex) (x : Val) (E : En) : Option (Val × En) :=
  match x.1 with
  | .lst xs => match intsOf xs with
    | some ns => some ((.lst ((sortI ns).map .int), .deep), E)
    | none => if srtOk xs then some (newLst (xs.mergeSort leD) (kesc a x E).1.2, (kesc a x E).2) else none
  | .dic false kvs => (keysI kvs).map fun ns => ((.lst ((sortI ns).map .int), .deep), E)
  | _ => none
def SRT (a : Ex) (x : Val) (E : En) (K : Val → En → Prop) [U K] : Prop := ∃ y E', srtR a x E = some (y, E') ∧ K y E'
theorem W_opS {a E P} : W.EV Φ (.opP .sorted a) E P ↔ W.EV Φ a E fun x E1 => SRT a x E1 fun y E2 => P y E2 := by
  show EV Φ (.opP .sorted a) E P ↔ EV Φ a E _
  have e : ev Φ (.opP .sorted a) E = (ev Φ a E).bind fun p => srtR a p.1 p.2 := by
    simp only [ev, srtR]
    rfl
  unfold EV SRT
  rw [e]
  simp only [Option.bind_eq_some_iff, Prod.exists]
  constructor
  · rintro ⟨d, w, E', ⟨x, w', E1, h1, h2⟩, p⟩
    exact ⟨x, w', E1, h1, d, w, E', h2, p⟩
  · rintro ⟨x, w', E1, h1, d, w, E', h2, p⟩
    exact ⟨d, w, E', ⟨x, w', E1, h1, h2⟩, p⟩

def EK (Φ : Phi) (p : Ex) (E : En) (K : List D → En → Prop) [U K] : Prop := ∃ ks E', evk Φ p E = some (ks, E') ∧ K ks E'
theorem EK_var {i E K} : EK Φ (.var i) E K ↔ K [] E := by
  unfold EK
  simp only [evk, Option.some.injEq, Prod.mk.injEq]
  exact ⟨fun ⟨_, _, ⟨rfl, rfl⟩, k⟩ => k, fun k => ⟨_, _, ⟨rfl, rfl⟩, k⟩⟩
theorem EK_ix {a k E K} : EK Φ (.ix a k) E K ↔ EK Φ a E fun ks E1 => W.EV Φ k E1 fun y E2 => K (ks ++ [y.1]) E2 := by
  show EK Φ (.ix a k) E K ↔ ∃ ks E', evk Φ a E = some (ks, E') ∧ EV Φ k E' _
  unfold EK EV
  simp only [evk, Option.bind_eq_bind, Option.bind_eq_some_iff, Prod.exists, Option.some.injEq, Prod.mk.injEq]
  constructor
  · rintro ⟨ks, E', ⟨ks1, E1, h1, y, w, E2, h2, rfl, rfl⟩, p⟩
    exact ⟨ks1, E1, h1, y, w, E2, h2, p⟩
  · rintro ⟨ks1, E1, h1, y, w, E2, h2, p⟩
    exact ⟨_, _, ⟨ks1, E1, h1, y, w, E2, h2, rfl, rfl⟩, p⟩

def CHP (i : Nat) (ks : List D) (own : Bool) (f : D → Option (D × D)) (E : En) (K : Val → En → Prop) [U K] : Prop := GS i E fun z => z.2 = .deep ∧ own = true ∧ OP (updP f ks z.1) fun p => PUT (E.set i (some (p.1, .deep))) fun E' => K (vl p.2 .deep) E'
theorem CHP_def {i ks own f E K} : CHP i ks own f E K ↔ GS i E fun z => z.2 = .deep ∧ own = true ∧ OP (updP f ks z.1) fun p => PUT (E.set i (some (p.1, .deep))) fun E' => K (vl p.2 .deep) E' := Iff.rfl
theorem W_mutP {m p es E P} : W.EV Φ (.mutP m p es) E P ↔ EK Φ p E fun ks E1 => (ks.isEmpty = false ∧ (wr p ++ wrs es).contains (root p) = false) ∧ GS (root p) E fun z => z.2 = .deep ∧ OP (kidsD z.1 ks) fun c => isLstD c = true ∧ W.EVs Φ es E1 fun xs E2 => CHP (root p) ks (allDeep xs) (mutD m (ds xs)) E2 fun r E3 => P r E3 := by
  show EV Φ (.mutP m p es) E P ↔ ∃ ks E1, evk Φ p E = some (ks, E1) ∧ _ ∧ ∃ z, E[root p]? = some (some z) ∧ z.2 = .deep ∧ ∃ c, kidsD z.1 ks = some c ∧ isLstD c = true ∧ EVs Φ es E1 fun xs E2 => ∃ z2, E2[root p]? = some (some z2) ∧ z2.2 = .deep ∧ allDeep xs = true ∧ ∃ q, updP (mutD m (ds xs)) ks z2.1 = some q ∧ P (vl q.2 .deep) (E2.set (root p) (some (q.1, .deep)))
  unfold EV EVs
  simp only [ev, Option.bind_eq_bind, Option.bind_eq_some_iff, Prod.exists]
  constructor
  · rintro ⟨d, w, E', ⟨ks, E1, h1, h2⟩, pp⟩
    rw [Option.ite_none_left_eq_some] at h2
    simp only [Option.bind_eq_some_iff, Prod.exists] at h2
    obtain ⟨hc, xs, E2, h3, h4⟩ := h2
    simp only [Bool.or_eq_true, not_or, Bool.not_eq_true, Bool.not_eq_false'] at hc
    obtain ⟨⟨hc1, hc2⟩, hc3⟩ := hc
    refine ⟨ks, E1, h1, ⟨hc1, hc2⟩, ?_⟩
    cases e : E[root p]? with
    | none => rw [e] at hc3; simp [isPathL] at hc3
    | some o =>
      cases o with
      | none => rw [e] at hc3; simp [isPathL] at hc3
      | some dw =>
        obtain ⟨d0, w0⟩ := dw
        rw [e] at hc3
        cases w0 with
        | sh => simp [isPathL] at hc3
        | top => simp [isPathL] at hc3
        | deep =>
          simp only [isPathL] at hc3
          cases ek : kidsD d0 ks with
          | none => rw [ek] at hc3; simp at hc3
          | some c =>
            rw [ek] at hc3
            refine ⟨d0, .deep, rfl, rfl, c, ek, by cases c <;> simp_all [isLstD], xs, E2, h3, ?_⟩
            unfold chg at h4
            cases e2 : E2[root p]? with
            | none => rw [e2] at h4; simp at h4
            | some o2 =>
              cases o2 with
              | none => rw [e2] at h4; simp at h4
              | some dw2 =>
                obtain ⟨d2, w2⟩ := dw2
                rw [e2] at h4
                simp only at h4
                rw [Option.ite_none_left_eq_some, if_neg (by rw [hc1]; decide), Option.ite_none_right_eq_some] at h4
                obtain ⟨_, ⟨rfl, hown⟩, h5⟩ := h4
                simp only [Option.bind_eq_bind, Option.bind_eq_some_iff, Prod.exists, Option.some.injEq, Prod.mk.injEq] at h5
                obtain ⟨dn, res, h6, e7, rfl⟩ := h5
                refine ⟨d2, .deep, rfl, rfl, hown, dn, res, h6, ?_⟩
                rw [e7]
                exact pp
  · rintro ⟨ks, E1, h1, ⟨hc1, hc2⟩, d0, w0, e, rfl, c, ek, hl, xs, E2, h3, d2, w2, e2, rfl, hown, dn, res, h6, pp⟩
    refine ⟨_, _, _, ⟨ks, E1, h1, ?_⟩, pp⟩
    have hp : isPathL (E[root p]?) ks = true := by
      rw [e]
      simp only [isPathL, ek]
      cases c <;> simp_all [isLstD]
    have hc : ¬((ks.isEmpty || (wr p ++ wrs es).contains (root p) || !isPathL (E[root p]?) ks) = true) := by rw [hc1, hc2, hp]; decide
    rw [if_neg hc]
    simp only [Option.bind_eq_some_iff, Prod.exists]
    refine ⟨xs, E2, h3, ?_⟩
    unfold chg
    rw [e2]
    simp only
    rw [if_neg (by decide), if_neg (by rw [hc1]; decide), if_pos (by simp [hown]), h6]
    rfl
end
theorem a1_lset {l : List Int} : app1 .lset (.lst (l.map D.int)) = if l.length ≤ 4000 then some (.int ((dedup l).length : Nat)) else none := by
  show (match intsOf (l.map D.int) with | some ns => if ns.length ≤ 4000 then some (D.int ((dedup ns).length : Nat)) else none | none => none) = _
  rw [intsOf_map]
theorem a1_lsetf {α : Type} {l : List α} {f : α → Int} : app1 .lset (.lst (l.map fun x => D.int (f x))) = if l.length ≤ 4000 then some (.int ((dedup (l.map f)).length : Nat)) else none := by
  rw [show (l.map fun x => D.int (f x)) = (l.map f).map D.int by simp, a1_lset, List.length_map]
theorem isEmpty_cons' {α : Type} {a : α} {l : List α} : (a :: l).isEmpty = false := rfl
theorem kidsD_one {d k} : kidsD d [k] = kidD d k := by simp only [kidsD]; cases kidD d k <;> rfl
theorem kidsD_two {d k l} : kidsD d [k, l] = (kidD d k).bind fun c => kidD c l := by
  simp only [kidsD]
  cases kidD d k with
  | none => rfl
  | some c => show (kidD c l).bind _ = kidD c l; cases kidD c l <;> rfl
theorem updP_one {f d k} : updP f [k] d = (kidD d k).bind fun c => (f c).map fun p => (putD d k p.1, p.2) := by
  unfold updP
  rw [kidsD_one]
  cases e : kidD d k with
  | none => rfl
  | some c => simp only [Option.bind_some, putsD, e]
theorem updP_two {f d k l} : updP f [k, l] d = (kidD d k).bind fun c => (kidD c l).bind fun b => (f b).map fun p => (putD d k (putD c l p.1), p.2) := by
  unfold updP
  rw [kidsD_two]
  cases e : kidD d k with
  | none => rfl
  | some c =>
    simp only [Option.bind_some]
    cases e2 : kidD c l with
    | none => rfl
    | some b => simp only [Option.bind_some, putsD, e, e2]
theorem mut_clr {xs : List D} : mutD .clear [] (.lst xs) = some (.lst [], .non) := rfl
theorem mut_rvs {xs : List D} : mutD .reverse [] (.lst xs) = some (.lst xs.reverse, .non) := rfl
def fent {α : Type} (f : α → D) (ns : List Int) (g : Int → α) : List (D × D) := ns.map fun n => (.int n, f (g n))
def fdic {α : Type} (f : α → D) (ns : List Int) (g : Int → α) : D := .dic false (fent f ns g)
theorem keq_i {i j : Int} : keq (.int i) (.int j) = decide (i = j) := by rw [keq]
theorem dget_fent {α : Type} {f : α → D} {g : Int → α} : ∀ {ns : List Int} {n : Int}, dget (fent f ns g) (.int n) = if n ∈ ns then some (f (g n)) else none
  | [], n => by simp [fent, dget]
  | m :: ns, n => by
    have ih := dget_fent (f := f) (g := g) (ns := ns) (n := n)
    unfold fent at ih ⊢
    rw [List.map_cons, dget, keq_i]
    by_cases h : m = n
    · subst h; simp
    · have h' : ¬ n = m := fun z => h z.symm
      simp [h, h', ih]
theorem dhas_fent {α : Type} {f : α → D} {ns : List Int} {g : Int → α} {n : Int} : dhas (fent f ns g) (.int n) = decide (n ∈ ns) := by
  have e : ∀ {kvs : List (D × D)} {k : D}, dhas kvs k = (dget kvs k).isSome := fun {kvs} => by
    induction kvs with
    | nil => intro k; rfl
    | cons c kvs ih =>
      intro k
      obtain ⟨a, b⟩ := c
      rw [show dhas ((a, b) :: kvs) k = (keq a k || dhas kvs k) from rfl, ih, dget]
      cases keq a k <;> rfl
  rw [e, dget_fent]
  by_cases h : n ∈ ns <;> simp [h]
def upd1 {α : Type} (g : Int → α) (n : Int) (x : α) : Int → α := fun m => if m = n then x else g m
theorem fent_len {α : Type} {f : α → D} {ns : List Int} {g : Int → α} : (fent f ns g).length = ns.length := by unfold fent; rw [List.length_map]
theorem fent_keys {α : Type} {f : α → D} {ns : List Int} {g : Int → α} : (fent f ns g).map (·.1) = ns.map D.int := by unfold fent; rw [List.map_map]; rfl
theorem intKeys_fent {α : Type} {f : α → D} {g : Int → α} : ∀ {ns : List Int}, intKeys (fent f ns g) = true
  | [] => rfl
  | n :: ns => by show (isIntD (.int n) && intKeys (fent f ns g)) = true; rw [intKeys_fent]; rfl
theorem keysI_fent {α : Type} {f : α → D} {g : Int → α} : ∀ {ns : List Int}, keysI (fent f ns g) = some ns
  | [] => rfl
  | n :: ns => by show (keysI (fent f ns g)).map (n :: ·) = _; rw [keysI_fent]; rfl
theorem vals_fent {α : Type} {f : α → D} {g : Int → α} : ∀ {ns : List Int}, vals (fent f ns g) = ns.map fun n => f (g n)
  | [] => rfl
  | n :: ns => by show f (g n) :: vals (fent f ns g) = _; rw [vals_fent]; rfl
theorem it_keysf {α : Type} {f : α → D} {ns : List Int} {g : Int → α} : items .keys [fdic f ns g] = some (ns.map D.int) := by
  show (if intKeys (fent f ns g) = true then some ((fent f ns g).map (·.1)) else none) = _
  rw [if_pos intKeys_fent, fent_keys]
theorem len_f {α : Type} {f : α → D} {ns : List Int} {g : Int → α} : lenD (fdic f ns g) = some (ns.length : Int) := by
  show some ((fent f ns g).length : Int) = _
  rw [fent_len]
theorem srt_f {α : Type} {f : α → D} {ns : List Int} {g : Int → α} {a w E K} : SRT a (fdic f ns g, w) E K ↔ K (.lst ((sortI ns).map .int), .deep) E := by
  have e : srtR a (fdic f ns g, w) E = some ((.lst ((sortI ns).map .int), .deep), E) := by
    show (keysI (fent f ns g)).map _ = _
    rw [keysI_fent]
    rfl
  unfold SRT
  rw [e]
  exact ⟨fun ⟨_, _, z, k⟩ => by cases z; exact k, fun k => ⟨_, _, rfl, k⟩⟩
theorem srt_l {ns : List Int} {a w E K} : SRT a (.lst (ns.map .int), w) E K ↔ K (.lst ((sortI ns).map .int), .deep) E := by
  have e : srtR a (.lst (ns.map .int), w) E = some ((.lst ((sortI ns).map .int), .deep), E) := by
    unfold srtR
    simp only [intsOf_map]
  unfold SRT
  rw [e]
  exact ⟨fun ⟨_, _, z, k⟩ => by cases z; exact k, fun k => ⟨_, _, rfl, k⟩⟩
theorem listD_f {α : Type} {f : α → D} {ns : List Int} {g : Int → α} {w} : listD (fdic f ns g, w) = some (.lst (ns.map .int), .deep) := by
  unfold fdic
  simp only [listD]
  rw [keysI_fent]
  rfl
theorem plain_f {α : Type} {f : α → D} {ns : List Int} {g : Int → α} : plain (fdic f ns g) = false := plain_dic
theorem kplain_f {α : Type} {f : α → D} {ns : List Int} {g : Int → α} : kplain (fdic f ns g) = plains (ns.map fun n => f (g n)) := by
  show plains (vals (fent f ns g)) = _
  rw [vals_fent]
theorem isDicD_f {α : Type} {f : α → D} {ns : List Int} {g : Int → α} : isDicD (fdic f ns g) = true := rfl
theorem isiOk_f {α : Type} {f : α → D} {ns : List Int} {g : Int → α} : isiOk (fdic f ns g) = true := rfl
theorem ty_f {α : Type} {f : α → D} {ns : List Int} {g : Int → α} : tyOf .dict (fdic f ns g) = true := rfl
theorem isNon_f {α : Type} {f : α → D} {ns : List Int} {g : Int → α} : isNon (fdic f ns g) = false := rfl
theorem isLstD_f {α : Type} {f : α → D} {ns : List Int} {g : Int → α} : isLstD (fdic f ns g) = false := rfl
theorem vl_f' {α : Type} {f : α → D} {ns : List Int} {g : Int → α} {w} : vl (fdic f ns g) w = (fdic f ns g, w) := vl_dic
theorem a2_inf {α : Type} {f : α → D} {ns : List Int} {g : Int → α} {n : Int} : app2 .In (.int n) (fdic f ns g) = some (.bl (decide (n ∈ ns))) := by
  unfold fdic
  rw [a2_ind, if_pos (by rfl), dhas_fent]
theorem a2_nif {α : Type} {f : α → D} {ns : List Int} {g : Int → α} {n : Int} : app2 .NotIn (.int n) (fdic f ns g) = some (.bl (!decide (n ∈ ns))) := by
  unfold fdic
  rw [a2_nid, if_pos (by rfl), dhas_fent]
theorem a2_index {l : List Int} {i : Int} : app2 .index (.lst (l.map D.int)) (.int i) = if i ∈ l then some (.int (l.idxOf i : Nat)) else none := by
  simp only [app2, intsOf_map]
theorem a3_getdi {ns : List Int} {g : Int → Int} {n x : Int} : app3 .getd (fdic D.int ns g) (.int n) (.int x) = some (.int (if n ∈ ns then g n else x)) := by
  unfold fdic
  simp only [app3]
  rw [keyOk_int, if_pos rfl, dget_fent]
  by_cases h : n ∈ ns <;> simp [h, plain]
def minI : List Int → Int
  | [] => 0
  | n :: ns => ns.foldl min n
def maxI : List Int → Int
  | [] => 0
  | n :: ns => ns.foldl max n
section
variable {Φ : Phi}
theorem W_op3 {o a b c E P} : W.EV Φ (.op3 o a b c) E P ↔ W.EV Φ a E fun x E1 => BRW a (wr b ++ wr c) x fun _ => W.EV Φ b E1 fun y E2 => BRW b (wr c) y fun _ => W.EV Φ c E2 fun z E3 => OP (app3 o x.1 y.1 z.1) fun d => P (d, .deep) E3 := by
  show EV Φ (.op3 o a b c) E P ↔ EV Φ a E fun x E1 => brw a (wr b ++ wr c) x = true ∧ EV Φ b E1 fun y E2 => brw b (wr c) y = true ∧ EV Φ c E2 fun z E3 => ∃ d, app3 o x.1 y.1 z.1 = some d ∧ P (d, .deep) E3
  unfold EV
  simp only [ev, Option.bind_eq_bind, Option.bind_eq_some_iff, Prod.exists]
  constructor
  · rintro ⟨d, w, E', ⟨x, w', E1, h1, h2⟩, p⟩
    split at h2
    · rename_i hb
      simp only [Option.bind_eq_some_iff, Prod.exists] at h2
      obtain ⟨y, u, E2, h3, h4⟩ := h2
      split at h4
      · rename_i hc
        simp only [Option.bind_eq_some_iff, Prod.exists, Option.some.injEq, Prod.mk.injEq] at h4
        obtain ⟨z, u3, E3, h5, d', h6, ⟨rfl, rfl⟩, rfl⟩ := h4
        exact ⟨x, w', E1, h1, hb, y, u, E2, h3, hc, z, u3, E3, h5, d', h6, p⟩
      · cases h4
    · cases h2
  · rintro ⟨x, w', E1, h1, hb, y, u, E2, h3, hc, z, u3, E3, h5, d', h6, p⟩
    refine ⟨d', .deep, E3, ⟨x, w', E1, h1, ?_⟩, p⟩
    rw [if_pos hb]
    simp only [Option.bind_eq_some_iff, Prod.exists]
    refine ⟨y, u, E2, h3, ?_⟩
    rw [if_pos hc]
    simp only [Option.bind_eq_some_iff, Prod.exists, Option.some.injEq, Prod.mk.injEq]
    exact ⟨z, u3, E3, h5, d', h6, by simp, rfl⟩
end
def heldD (elt cond : Ex) (tg : Tg) (i : Nat) (z : Val) (E : En) : Option (List D × En) :=
  match z with
  | (.dic false kvs, w) => if w ≠ .sh ∧ plains (vals kvs) = true ∧ intKeys kvs = true ∧ (tgs tg).contains i = false ∧ ((wrx elt ++ wr cond).all fun j => (tgs tg).contains j) = true ∧ kvs.length ≤ line ∧ keepable (tgs tg) (E.set i (some (.dic false kvs, .sh))) = true then some (kvs.map (·.1), E.set i (some (.dic false kvs, .sh))) else none
  | _ => none
section
variable {Φ : Phi}
theorem W_comph {elt tg i cond E P} : W.EV Φ (.comph elt tg i cond) E P ↔ GS i E fun z => OP (heldD elt cond tg i z E) fun p => W.CP Φ false elt tg cond p.1 p.2 [] fun acc _ => plains acc = true ∧ PUT E fun E => P (.lst acc, .deep) E := by
  show EV Φ (.comph elt tg i cond) E P ↔ ∃ z, E[i]? = some (some z) ∧ ∃ p, heldD elt cond tg i z E = some p ∧ CP Φ false elt tg cond p.1 p.2 [] fun acc _ => plains acc = true ∧ P (.lst acc, .deep) E
  unfold EV CP
  simp only [ev]
  constructor
  · rintro ⟨x, E', h, p⟩
    split at h
    · rename_i kvs w he
      split at h
      · rename_i hc
        simp only [Option.bind_eq_bind, Option.bind_eq_some_iff, Prod.exists] at h
        obtain ⟨acc, E2, h1, h2⟩ := h
        split at h2
        · rename_i hp
          simp only [Option.some.injEq, Prod.mk.injEq] at h2
          obtain ⟨rfl, rfl⟩ := h2
          exact ⟨_, he, (kvs.map (·.1), E.set i (some (.dic false kvs, .sh))), by simp only [heldD]; rw [if_pos hc], acc, E2, h1, hp, p⟩
        · cases h2
      · cases h
    · cases h
  · rintro ⟨z, he, q, hh, acc, E2, h1, hp, p⟩
    obtain ⟨d, w⟩ := z
    cases d with
    | dic t kvs =>
      cases t with
      | true => cases hh
      | false =>
        simp only [heldD] at hh
        split at hh
        · rename_i hc
          cases hh
          refine ⟨_, E, ?_, p⟩
          rw [he]
          simp only
          rw [if_pos hc]
          simp only [Option.bind_eq_bind, Option.bind_eq_some_iff, Prod.exists]
          exact ⟨acc, E2, h1, by rw [if_pos hp]⟩
        · cases hh
    | _ => cases hh
end

def FLT : Nat → En → Bool
  | 0, some (d, _) :: _ => flat d
  | 0, none :: _ => true
  | i + 1, _ :: E => FLT i E
  | _, [] => false
theorem FLT_n {E} : FLT 0 (none :: E) = true := by rw [FLT]
theorem FLT_z {d w E} : FLT 0 (some (d, w) :: E) = flat d := by rw [FLT]
theorem FLT_s {i a E} : FLT (i + 1) (a :: E) = FLT i E := by rw [FLT]
theorem FLT_eq : ∀ (i : Nat) (E : En), (match E[i]? with | some (some (d, _)) => flat d | some none => true | none => false) = FLT i E
  | 0, [] => rfl
  | 0, none :: _ => by simp [FLT]
  | 0, some (d, w) :: _ => by simp [FLT]
  | i + 1, [] => rfl
  | i + 1, a :: E => by rw [FLT_s, ← FLT_eq i E, List.getElem?_cons_succ]
theorem bOk_nil {is E} : brwOk is [] E = true := rfl
theorem bOk_cons {is j ws E} : brwOk is (j :: ws) E = ((is.contains j || FLT j E) && brwOk is ws E) :=
  congrArg (fun b => (is.contains j || b) && brwOk is ws E) (FLT_eq j E)
theorem flat_int {i} : flat (.int i) = true := by rw [flat]
theorem flat_bl {i} : flat (.bl i) = true := by rw [flat]
theorem flat_non : flat .non = true := by rw [flat]
theorem flat_tx {i} : flat (tx i) = true := by unfold tx; rw [flat]
theorem flat_tup {xs} : flat (.tup xs) = flats xs := by rw [flat]
theorem flats_nil : flats [] = true := by rw [flats]
theorem flats_cons {x xs} : flats (x :: xs) = (flat x && flats xs) := by rw [flats]
theorem lend_nil {E} : lend [] E = some E := by rw [lend]
theorem unlA_t {is k x y} {E E1 : En} (h : is.contains k = true) : unlA is k (x :: E) (y :: E1) = x :: unlA is (k + 1) E E1 := by rw [unlA, if_pos h]
theorem unlA_f {is k x y} {E E1 : En} (h : is.contains k = false) : unlA is k (x :: E) (y :: E1) = y :: unlA is (k + 1) E E1 := by rw [unlA, h]; rfl
theorem unlA_nil {is k} {E1 : En} : unlA is k [] E1 = E1 := by cases E1 <;> rw [unlA] <;> simp
theorem OP_lend {i is} {E : En} {K : En → Prop} : OP (lend (i :: is) E) K ↔ GS i E fun z => (z.2 = .sh ∨ plain z.1 = false) ∧ OP (lend is (E.set i (some (z.1, .sh)))) K := by
  unfold OP GS
  simp only [lend]
  constructor
  · rintro ⟨E0, h, k⟩
    split at h
    · rename_i d w he
      split at h
      · rename_i hc
        exact ⟨_, he, hc, E0, h, k⟩
      · cases h
    · cases h
  · rintro ⟨z, he, hc, E0, h, k⟩
    refine ⟨E0, ?_, k⟩
    rw [he]
    simp only
    rw [if_pos hc]
    exact h
section
variable {Φ : Phi}
theorem W_brw {is e E P} : W.EV Φ (.brw is e) E P ↔ OP (lend is E) fun E0 => W.EV Φ e E0 fun x E1 => ((flat x.1 = true ∨ (x.2 = .deep ∧ isPl e = false ∧ nofs x.1 = true)) ∧ brwOk is (wr e) E1 = true) ∧ PUT (unlA is 0 E E1) fun E' => P (x.1, .deep) E' := by
  show EV Φ (.brw is e) E P ↔ ∃ E0, lend is E = some E0 ∧ EV Φ e E0 fun x E1 => ((flat x.1 = true ∨ (x.2 = .deep ∧ isPl e = false ∧ nofs x.1 = true)) ∧ brwOk is (wr e) E1 = true) ∧ P (x.1, .deep) (unlA is 0 E E1)
  unfold EV
  simp only [ev]
  constructor
  · rintro ⟨x, E', h, p⟩
    split at h
    · rename_i E0 he
      simp only [Option.bind_eq_bind, Option.bind_eq_some_iff, Prod.exists] at h
      obtain ⟨y, u, E1, h1, h2⟩ := h
      split at h2
      · rename_i hf
        simp only [Option.some.injEq, Prod.mk.injEq] at h2
        obtain ⟨rfl, rfl⟩ := h2
        exact ⟨E0, he, (y, u), E1, h1, hf, p⟩
      · cases h2
    · cases h
  · rintro ⟨E0, he, y, E1, h1, hf, p⟩
    refine ⟨_, _, ?_, p⟩
    rw [he]
    simp only [Option.bind_eq_bind, Option.bind_eq_some_iff, Prod.exists]
    exact ⟨y.1, y.2, E1, h1, by rw [if_pos hf]⟩
end
section
variable {Φ : Phi}
def dicOf : D → Option (List (D × D))
  | .dic false kvs => some kvs
  | _ => none
theorem dicOf_f {α : Type} {f : α → D} {ns : List Int} {g : Int → α} : dicOf (fdic f ns g) = some (fent f ns g) := rfl
theorem W_dpop {i k E P} : W.EV Φ (.dpop i k) E P ↔ GS i E fun z => OP (dicOf z.1) fun kvs => W.EV Φ k E fun y E1 => OP (dpopD kvs z.2 i (wr k) y.1 E1) fun r => PUT r.2 fun E2 => P r.1 E2 := by
  show EV Φ (.dpop i k) E P ↔ ∃ z, E[i]? = some (some z) ∧ ∃ kvs, dicOf z.1 = some kvs ∧ EV Φ k E fun y E1 => ∃ r, dpopD kvs z.2 i (wr k) y.1 E1 = some r ∧ P r.1 r.2
  unfold EV
  simp only [ev]
  constructor
  · rintro ⟨x, E', h, p⟩
    split at h
    · rename_i kvs w he
      simp only [Option.bind_eq_bind, Option.bind_eq_some_iff, Prod.exists] at h
      obtain ⟨yd, yw, E1, h1, h2⟩ := h
      exact ⟨_, he, kvs, rfl, (yd, yw), E1, h1, (x, E'), h2, p⟩
    · cases h
  · rintro ⟨z, he, kvs, hk, y, E1, h1, r, h2, p⟩
    obtain ⟨d, w⟩ := z
    cases d with
    | dic t kvs' =>
      cases t with
      | true => cases hk
      | false =>
        cases hk
        refine ⟨r.1, r.2, ?_, p⟩
        rw [he]
        simp only [Option.bind_eq_bind, Option.bind_eq_some_iff, Prod.exists]
        exact ⟨y.1, y.2, E1, h1, h2⟩
    | _ => cases hk
end
section
variable {Φ : Phi}

end
end BS

set_option Elab.async false
set_option linter.all false
set_option maxRecDepth 100000
set_option maxHeartbeats 2000000

namespace BS
open PySem L2
def gsD (x : Val) (y z : D) : Option Val := match x with
  | (.dic t kvs, .sh) => if keyOk t y = true then some (vl ((dget kvs y).getD z) .sh) else none
  | _ => none

def maxO (i : Int) : List Int → Int
  | [] => i
  | n :: ns => ns.foldl max n
def minO (i : Int) : List Int → Int
  | [] => i
  | n :: ns => ns.foldl min n
section
variable {Φ : Phi}
theorem EV_part {z a E P} : EV Φ (.opP (.part z) a) E P ↔ EV Φ a E fun x E1 => ∃ d, prtnD z x.1 = some d ∧ P (d, .deep) E1 := by
  unfold EV
  simp only [ev, Option.bind_eq_bind, Option.bind_eq_some_iff, Prod.exists, Option.some.injEq, Prod.mk.injEq]
  constructor
  · rintro ⟨d, w, E', ⟨x, w', E1, h1, d', h2, ⟨rfl, rfl⟩, rfl⟩, p⟩
    exact ⟨x, w', E1, h1, d', h2, p⟩
  · rintro ⟨x, w', E1, h1, d', h2, p⟩
    exact ⟨d', .deep, E1, ⟨x, w', E1, h1, d', h2, by simp, rfl⟩, p⟩
theorem W_ssetT {a E P} : W.EV Φ (.opP .ssetT a) E P ↔ W.EV Φ a E fun x E1 => OP (ssetTD x.1) fun d => P (d, .deep) E1 := by
  show EV Φ (.opP .ssetT a) E P ↔ EV Φ a E fun x E1 => ∃ d, ssetTD x.1 = some d ∧ P (d, .deep) E1
  unfold EV
  simp only [ev, Option.bind_eq_bind, Option.bind_eq_some_iff, Prod.exists, Option.some.injEq, Prod.mk.injEq]
  constructor
  · rintro ⟨d, w, E', ⟨x, w', E1, h1, d', h2, ⟨rfl, rfl⟩, rfl⟩, p⟩
    exact ⟨x, w', E1, h1, d', h2, p⟩
  · rintro ⟨x, w', E1, h1, d', h2, p⟩
    exact ⟨d', .deep, E1, ⟨x, w', E1, h1, d', h2, by simp, rfl⟩, p⟩
theorem a1_all2 {a b : Bool} : app1 .all (.lst [.bl a, .bl b]) = some (.bl (a && b)) := by cases a <;> cases b <;> rfl
theorem a1_any2 {a b : Bool} : app1 .any (.lst [.bl a, .bl b]) = some (.bl (a || b)) := by cases a <;> cases b <;> rfl
theorem EV_catT {a b E P} : EV Φ (.catT a b) E P ↔ EV Φ a E fun x E1 => brw a (wr b) x = true ∧ EV Φ b E1 fun y E2 => ∃ d, catTD x.1 y.1 = some d ∧ P (d, .deep) E2 := by
  unfold EV
  simp only [ev, Option.bind_eq_bind, Option.bind_eq_some_iff, Prod.exists]
  constructor
  · rintro ⟨d, w, E', ⟨x, w', E1, h1, h2⟩, p⟩
    split at h2
    · rename_i hb
      simp only [Option.bind_eq_some_iff, Prod.exists, Option.some.injEq, Prod.mk.injEq] at h2
      obtain ⟨y, u, E2, h3, d', h4, ⟨rfl, rfl⟩, rfl⟩ := h2
      exact ⟨x, w', E1, h1, hb, y, u, E2, h3, d', h4, p⟩
    · cases h2
  · rintro ⟨x, w', E1, h1, hb, y, u, E2, h3, d', h4, p⟩
    refine ⟨d', .deep, E2, ⟨x, w', E1, h1, ?_⟩, p⟩
    rw [if_pos hb]
    simp only [Option.bind_eq_some_iff, Prod.exists, Option.some.injEq, Prod.mk.injEq]
    exact ⟨y, u, E2, h3, d', h4, by simp, rfl⟩
theorem W_shp {i E P} : W.EV Φ (.shp i) E P ↔ GS i E fun x => plain x.1 = true ∧ P (x.1, .deep) E := by
  show EV Φ (.shp i) E P ↔ ∃ x, E[i]? = some (some x) ∧ (plain x.1 = true ∧ P (x.1, .deep) E)
  unfold EV
  simp only [ev]
  constructor
  · rintro ⟨v, E', h, p⟩
    split at h
    · rename_i d' w' e
      rw [Option.ite_none_right_eq_some] at h
      obtain ⟨h1, h2⟩ := h
      simp only [Option.some.injEq, Prod.mk.injEq] at h2
      obtain ⟨rfl, rfl⟩ := h2
      exact ⟨(d', w'), e, h1, p⟩
    · cases h
  · rintro ⟨⟨d, w⟩, e, h1, p⟩
    refine ⟨(d, .deep), E, ?_, p⟩
    rw [e]
    exact if_pos h1
theorem W_dctT {es E P} : W.EV Φ (.dctT es) E P ↔ W.EVs Φ es E fun xs E1 => OP (pairUp (ds xs)) fun kvs => keysOkT kvs = true ∧ P (.dic true kvs, if allDeep xs = true then .deep else .top) E1 := by
  show EV Φ (.dctT es) E P ↔ EVs Φ es E _
  unfold EV EVs OP
  simp only [ev, Option.bind_eq_bind, Option.bind_eq_some_iff, Prod.exists]
  constructor
  · rintro ⟨d, w, E', ⟨xs, E1, h1, kvs, h2, h3⟩, p⟩
    split at h3
    · rename_i hc
      simp only [Option.some.injEq, Prod.mk.injEq] at h3
      obtain ⟨⟨rfl, rfl⟩, rfl⟩ := h3
      exact ⟨xs, E1, h1, kvs, h2, hc, p⟩
    · cases h3
  · rintro ⟨xs, E1, h1, kvs, h2, hc, p⟩
    exact ⟨_, _, _, ⟨xs, E1, h1, kvs, h2, if_pos hc⟩, p⟩
theorem W_getS {a b c E P} : W.EV Φ (.getS a b c) E P ↔ W.EV Φ a E fun x E1 => BRW a (wr b ++ wrx c) x fun _ => W.EV Φ b E1 fun y E2 => BRW b (wrx c) y fun _ => W.EV Φ c E2 fun z E3 => ESC c z E3 fun z E4 => OP (gsD x y.1 z.1) fun d => P d E4 := by
  show EV Φ (.getS a b c) E P ↔ EV Φ a E fun x E1 => brw a (wr b ++ wrx c) x = true ∧ EV Φ b E1 fun y E2 => brw b (wrx c) y = true ∧ EV Φ c E2 fun z E3 => ∃ d, gsD x y.1 (esc c z E3).1.1 = some d ∧ P d (esc c z E3).2
  unfold EV
  simp only [ev, Option.bind_eq_bind, Option.bind_eq_some_iff, Prod.exists]
  constructor
  · rintro ⟨d, w, E', ⟨x, w', E1, h1, h2⟩, p⟩
    split at h2
    · rename_i hb
      simp only [Option.bind_eq_some_iff, Prod.exists] at h2
      obtain ⟨y, u, E2, h3, h4⟩ := h2
      split at h4
      · rename_i hc
        simp only [Option.bind_eq_some_iff, Prod.exists] at h4
        obtain ⟨z, u3, E3, h5, h6⟩ := h4
        split at h6
        · rename_i t kvs ed
          rw [Option.ite_none_right_eq_some] at h6
          obtain ⟨hk, h6⟩ := h6
          simp only [Option.some.injEq, Prod.mk.injEq] at h6
          obtain ⟨e6, rfl⟩ := h6
          refine ⟨x, w', E1, h1, hb, y, u, E2, h3, hc, z, u3, E3, h5, (d, w).1, (d, w).2, ?_, p⟩
          rw [ed]
          show (if keyOk t y = true then some _ else none) = _
          rw [if_pos hk, e6]
        · cases h6
      · cases h4
    · cases h2
  · rintro ⟨x, w', E1, h1, hb, y, u, E2, h3, hc, z, u3, E3, h5, d, w, h6, p⟩
    refine ⟨d, w, _, ⟨x, w', E1, h1, ?_⟩, p⟩
    rw [if_pos hb]
    simp only [Option.bind_eq_some_iff, Prod.exists]
    refine ⟨y, u, E2, h3, ?_⟩
    rw [if_pos hc]
    simp only [Option.bind_eq_some_iff, Prod.exists]
    refine ⟨z, u3, E3, h5, ?_⟩
    unfold gsD at h6
    split at h6
    · rename_i t kvs ed
      simp only [Prod.mk.injEq] at ed
      obtain ⟨rfl, rfl⟩ := ed
      rw [Option.ite_none_right_eq_some] at h6
      obtain ⟨hk, h6⟩ := h6
      show (if keyOk t y = true then some _ else none) = _
      rw [if_pos hk]
      simp only [Option.some.injEq] at h6
      rw [h6]
    · cases h6
theorem W_slk {a b c : Ex} {E : En} {P : Val → En → Prop} : W.EV Φ (.slk a b c) E P ↔ W.EV Φ a E fun x E2 => slkOk x.1 = true ∧ BRW a (wr b ++ wr c) x fun _ => W.EV Φ b E2 fun l E3 => W.EV Φ c E3 fun h E4 => OP (sliceI b l.1) fun lo => OP (sliceI c h.1) fun hi => OP (slD lo hi x.1 x.2) fun r => P r E4 := by
  show EV Φ (.slk a b c) E P ↔ EV Φ a E fun x E2 => slkOk x.1 = true ∧ brw a (wr b ++ wr c) x = true ∧ EV Φ b E2 fun l E3 => EV Φ c E3 fun h E4 => ∃ lo, sliceI b l.1 = some lo ∧ ∃ hi, sliceI c h.1 = some hi ∧ ∃ r, slD lo hi x.1 x.2 = some r ∧ P r E4
  unfold EV
  simp only [ev, Option.bind_eq_bind, Option.bind_eq_some_iff, Prod.exists]
  constructor
  · rintro ⟨d, w, E', ⟨x, w', E1, h1, h2⟩, p⟩
    split at h2
    · rename_i hb
      simp only [Option.bind_eq_some_iff, Prod.exists, Option.some.injEq, Prod.mk.injEq] at h2
      obtain ⟨l, lw, E2, h3, h, hw, E3, h4, lo, h5, hi, h6, r, rw', h7, e1, rfl⟩ := h2
      exact ⟨x, w', E1, h1, hb.1, hb.2, l, lw, E2, h3, h, hw, E3, h4, lo, h5, hi, h6, r, rw', h7, by rw [e1.1, e1.2]; exact p⟩
    · cases h2
  · rintro ⟨x, w', E1, h1, hb1, hb2, l, lw, E2, h3, h, hw, E3, h4, lo, h5, hi, h6, r, rw', h7, p⟩
    refine ⟨r, rw', E3, ⟨x, w', E1, h1, ?_⟩, p⟩
    rw [if_pos ⟨hb1, hb2⟩]
    simp only [Option.bind_eq_some_iff, Prod.exists, Option.some.injEq, Prod.mk.injEq]
    exact ⟨l, lw, E2, h3, h, hw, E3, h4, lo, h5, hi, h6, r, rw', h7, ⟨rfl, rfl⟩, rfl⟩
theorem slkOk_l {ys : List D} : slkOk (.lst ys) = plains ys := rfl
theorem W_part {z a E P} : W.EV Φ (.opP (.part z) a) E P ↔ W.EV Φ a E fun x E1 => OP (prtnD z x.1) fun d => P (d, .deep) E1 := EV_part
theorem W_catT {a b E P} : W.EV Φ (.catT a b) E P ↔ W.EV Φ a E fun x E1 => BRW a (wr b) x fun _ => W.EV Φ b E1 fun y E2 => OP (catTD x.1 y.1) fun d => P (d, .deep) E2 := EV_catT
theorem catTD_t {xs ys} : catTD (.tup xs) (.tup ys) = if xs.length + ys.length ≤ line ∧ plains xs = true ∧ plains ys = true then some (.tup (xs ++ ys)) else none := rfl
end
class SmallT (tab : Nat → Option Def) : Prop where
  no : ∀ g, 1000 ≤ g → tab g = none
instance instSmallΦ {tab : Nat → Option Def} [h : SmallT tab] {n : Nat} : SmallΦ (call tab n) := small_of h.no n

def EXX (Φ : Phi) (s : Ss) (E : En) (N : En → Prop) (R : Val → En → Prop) (X : Exn → En → Prop) : Prop := ∃ o, ex Φ s E = some o ∧ (match o with | .nx E' => N E' | .rt x E' => R x E' | .rs x E' => X x E')
def FLX (Φ : Phi) (tg : Tg) (body : Ss) (its : List D) (E : En) (N : En → Prop) (R : Val → En → Prop) (X : Exn → En → Prop) : Prop :=
  ∃ o, forL (fun x E => do
      let E ← bindT tg x E
      ex Φ body E) its E = some o ∧ (match o with | .nx E' => N E' | .rt x E' => R x E' | .rs x E' => X x E')

def CE (Φ : Phi) (g : Nat) (vs : List Val) (x : Exn) : Prop := Φ g vs = none ∧ x.1 < 16 ∧ ∃ w os, Φ (g + RZ) vs = some ((errD x, w), os)
def CLX (Φ : Phi) (g : Nat) (vs : List Val) (A : Val → List (Option Val) → Prop) (C : Exn → Prop) : Prop := CL Φ g vs A ∨ ∃ x, CE Φ g vs x ∧ C x
namespace W
def EXX (Φ : Phi) (s : Ss) (E : En) (N : En → Prop) (R : Val → En → Prop) (X : Exn → En → Prop) [U N] [U R] [U X] : Prop := BS.EXX Φ s E N R X
def FLX (Φ : Phi) (tg : Tg) (body : Ss) (its : List D) (E : En) (N : En → Prop) (R : Val → En → Prop) (X : Exn → En → Prop) [U N] [U R] [U X] : Prop := BS.FLX Φ tg body its E N R X
def CLX (Φ : Phi) (g : Nat) (vs : List Val) (A : Val → List (Option Val) → Prop) (C : Exn → Prop) [U A] [U C] : Prop := BS.CLX Φ g vs A C
end W
section
variable {Φ : Phi}
theorem noRs_forL {Φ : Phi} {tg : Tg} {b : Ss} (h : ∀ E x E1, ex Φ b E ≠ some (.rs x E1)) : ∀ (l : List D) (E : En) (x : Exn) (E1 : En), forL (fun x E => do let E ← bindT tg x E; ex Φ b E) l E ≠ some (.rs x E1)
  | [], E, x, E1, e => by simp [forL] at e
  | d :: l, E, x, E1, e => by
    simp only [forL, Option.bind_eq_bind] at e
    cases hb : bindT tg (shv d) E with
    | none => rw [hb] at e; simp at e
    | some E2 =>
      rw [hb] at e
      simp only [Option.bind_some] at e
      cases h2 : ex Φ b E2 with
      | none => rw [h2] at e; simp at e
      | some o =>
        rw [h2] at e
        cases o with
        | nx E3 => exact noRs_forL h l E3 x E1 e
        | rt v E3 => simp at e
        | rs y E3 => exact h _ _ _ h2
theorem noRs_whl {c : En → Option (Bool × En)} {f : En → Option Out} (h : ∀ E x E1, f E ≠ some (.rs x E1)) : ∀ (n : Nat) (E : En) (x : Exn) (E1 : En), whileL c f n E ≠ some (.rs x E1)
  | 0, E, x, E1, e => by simp [whileL] at e
  | n + 1, E, x, E1, e => by
    rw [whileL] at e
    cases hc : c E with
    | none => rw [hc] at e; simp at e
    | some p =>
      obtain ⟨k, E2⟩ := p
      rw [hc] at e
      cases k with
      | false => simp at e
      | true =>
        simp only at e
        cases h2 : f E2 with
        | none => rw [h2] at e; simp at e
        | some o =>
          rw [h2] at e
          cases o with
          | nx E3 => exact noRs_whl h n E3 x E1 e
          | rt v E3 => simp at e
          | rs y E3 => exact h _ _ _ h2
theorem noRs_ex : ∀ (s : Ss), noRs s = true → ∀ E x E1, ex Φ s E ≠ some (.rs x E1) := by
  intro s
  induction s with
  | skip => intro _ E x E1 e; simp [ex] at e
  | seq a b iha ihb =>
    intro h E x E1 e
    simp only [noRs, Bool.and_eq_true] at h
    simp only [ex] at e
    cases h1 : ex Φ a E with
    | none => rw [h1] at e; simp at e
    | some o =>
      rw [h1] at e
      cases o with
      | nx E2 => exact ihb h.2 _ _ _ e
      | rt v E2 => simp at e
      | rs y E2 => exact iha h.1 _ _ _ h1
  | set tg e0 => intro _ E x E1 e; simp only [ex, Option.bind_eq_bind, Option.bind_eq_some_iff] at e; obtain ⟨_, _, _, _, e⟩ := e; simp at e
  | setIx i k e0 =>
    intro _ E x E1 e
    simp only [ex, Option.bind_eq_bind, Option.bind_eq_some_iff] at e
    obtain ⟨_, _, e⟩ := e
    split at e
    · simp only [Option.bind_eq_some_iff] at e
      obtain ⟨_, _, _, _, e⟩ := e
      simp at e
    · cases e
  | setP p k e0 =>
    intro _ E x E1 e
    simp only [ex, Option.bind_eq_bind, Option.bind_eq_some_iff] at e
    obtain ⟨_, _, _, _, e⟩ := e
    split at e
    · cases e
    · simp only [Option.bind_eq_some_iff] at e
      obtain ⟨_, _, _, _, e⟩ := e
      simp at e
  | expr e0 => intro _ E x E1 e; simp only [ex, Option.bind_eq_bind, Option.bind_eq_some_iff] at e; obtain ⟨_, _, e⟩ := e; simp at e
  | ite c a b iha ihb =>
    intro h E x E1 e
    simp only [noRs, Bool.and_eq_true] at h
    simp only [ex, Option.bind_eq_bind, Option.bind_eq_some_iff] at e
    obtain ⟨_, _, e⟩ := e
    split at e
    · exact iha h.1 _ _ _ e
    · exact ihb h.2 _ _ _ e
    · cases e
  | for_ tg k es b ih =>
    intro h E x E1 e
    simp only [noRs] at h
    simp only [ex, Option.bind_eq_bind, Option.bind_eq_some_iff] at e
    obtain ⟨_, _, _, _, e⟩ := e
    exact noRs_forL (fun E x E1 => ih h E x E1) _ _ _ _ e
  | whl c b ih =>
    intro h E x E1 e
    simp only [noRs] at h
    rw [ex] at e
    exact noRs_whl (fun E x E1 => ih h E x E1) _ _ _ _ e
  | ret e0 =>
    intro _ E x E1 e
    cases e0 with
    | var i =>
      simp only [ex] at e
      split at e
      · simp at e
      · cases e
    | _ =>
      simp only [ex, Option.bind_eq_bind, Option.bind_eq_some_iff] at e
      obtain ⟨_, _, e⟩ := e
      simp at e
  | retn => intro _ E x E1 e; simp [ex] at e
  | rs c => intro h; simp [noRs] at h
  | rsP c e0 => intro h; simp [noRs] at h
  | xc g es => intro h; simp [noRs] at h
  | sc i g es => intro h; simp [noRs] at h
  | ic g es a b _ _ => intro h; simp [noRs] at h
  | try_ c j i b _ => intro h; simp [noRs] at h
  | tryU c j i z b _ => intro h; simp [noRs] at h
  | forT is e b ih =>
    intro h E x E1 e
    simp only [noRs] at h
    simp only [ex] at e
    split at e
    · exact noRs_forL (fun E x E1 => ih h E x E1) _ _ _ _ e
    · cases e
  | swp i a b =>
    intro _ E x E1 e
    simp only [ex] at e
    split at e
    · split at e
      · simp at e
      · cases e
    · cases e
  | popK i l =>
    intro _ E x E1 e
    simp only [ex] at e
    split at e
    · split at e <;> simp at e
    · cases e
  | apN i j k =>
    intro _ E x E1 e
    simp only [ex] at e
    split at e
    · split at e <;> simp at e
    · cases e
  | popS i =>
    intro _ E x E1 e
    simp only [ex] at e
    split at e
    · split at e <;> simp at e
    · cases e
  | apw j i b ih =>
    intro h E x E1 e
    simp only [ex] at e
    split at e
    · split at e
      · cases e
      · split at e
        · split at e <;> simp at e
        · cases e
    · cases e
theorem X_no {s E N R X} (h : noRs s = true) : EXX Φ s E N R X ↔ EX Φ s E N R := by
  unfold EXX EX
  constructor
  · rintro ⟨o, h1, p⟩
    refine ⟨o, h1, ?_⟩
    cases o with
    | rs x E1 => exact absurd h1 (noRs_ex s h _ _ _)
    | _ => exact p
  · rintro ⟨o, h1, p⟩
    refine ⟨o, h1, ?_⟩
    cases o with
    | rs x E1 => exact p.elim
    | _ => exact p
theorem X_set {tg e E N R X} : W.EXX Φ (.set tg e) E N R X ↔ W.EX Φ (.set tg e) E N R := X_no rfl
theorem X_setIx {i k e E N R X} : W.EXX Φ (.setIx i k e) E N R X ↔ W.EX Φ (.setIx i k e) E N R := X_no rfl
theorem X_setP {i k e E N R X} : W.EXX Φ (.setP i k e) E N R X ↔ W.EX Φ (.setP i k e) E N R := X_no rfl
theorem X_expr {e E N R X} : W.EXX Φ (.expr e) E N R X ↔ W.EX Φ (.expr e) E N R := X_no rfl
theorem X_ret {e E N R X} : W.EXX Φ (.ret e) E N R X ↔ W.EX Φ (.ret e) E N R := X_no rfl
theorem X_retn {E N R X} : W.EXX Φ .retn E N R X ↔ W.EX Φ .retn E N R := X_no rfl
theorem X_skip {E N R X} : W.EXX Φ .skip E N R X ↔ N E := (X_no rfl).trans EX_skip
theorem X_seq {a b E N R X} : W.EXX Φ (.seq a b) E N R X ↔ W.EXX Φ a E (fun E1 => W.EXX Φ b E1 N R X) R X := by
  show EXX Φ (.seq a b) E N R X ↔ EXX Φ a E (fun E1 => EXX Φ b E1 N R X) R X
  unfold EXX
  simp only [ex]
  cases ex Φ a E with
  | none => simp
  | some o => cases o <;> simp
theorem X_ite {c a b E N R X} : W.EXX Φ (.ite c a b) E N R X ↔ W.EV Φ c E fun x E1 => BR x.1 (fun _ => W.EXX Φ a E1 N R X) fun _ => W.EXX Φ b E1 N R X := by
  show EXX Φ (.ite c a b) E N R X ↔ EV Φ c E fun x E1 => (x.1 = .bl true ∧ EXX Φ a E1 N R X) ∨ (x.1 = .bl false ∧ EXX Φ b E1 N R X)
  unfold EXX EV
  simp only [ex, Option.bind_eq_bind, Option.bind_eq_some_iff, Prod.exists]
  constructor
  · rintro ⟨o, ⟨x, w, E1, h1, h2⟩, p⟩
    refine ⟨x, w, E1, h1, ?_⟩
    cases x with
    | bl k => cases k <;> simp_all
    | _ => cases h2
  · rintro ⟨x, w, E1, h1, h2⟩
    rcases h2 with ⟨rfl, o, h2, p⟩ | ⟨rfl, o, h2, p⟩
    · exact ⟨o, ⟨_, _, _, h1, h2⟩, p⟩
    · exact ⟨o, ⟨_, _, _, h1, h2⟩, p⟩
theorem X_for {tg k es body E N R X} : W.EXX Φ (.for_ tg k es body) E N R X ↔ W.IT Φ k (wrS body ++ tgs tg) es E fun its E1 => W.FLX Φ tg body its E1 N R X := by
  show EXX Φ (.for_ tg k es body) E N R X ↔ IT Φ k (wrS body ++ tgs tg) es E fun its E1 => FLX Φ tg body its E1 N R X
  cases k <;>
  · unfold EXX IT FLX
    simp only [EVs, EVi, ex, Option.bind_eq_bind, Option.bind_eq_some_iff, Prod.exists]
    constructor
    · rintro ⟨o, ⟨xs, E1, h1, its, h2, h3⟩, p⟩
      exact ⟨xs, E1, h1, its, h2, o, h3, p⟩
    · rintro ⟨xs, E1, h1, its, h2, o, h3, p⟩
      exact ⟨o, ⟨xs, E1, h1, its, h2, h3⟩, p⟩
theorem X_rs {c E N R X} : W.EXX Φ (.rs c) E N R X ↔ X (c, 0) E := by show EXX Φ (.rs c) E N R X ↔ _; simp [EXX, ex]
def allInl : List Ar → Bool
  | [] => true
  | .inl _ :: r => allInl r
  | .inr _ :: _ => false
theorem allInl_nil : allInl [] = true := rfl
theorem allInl_cons {x r} : allInl (.inl x :: r) = allInl r := rfl
theorem gat_inls : ∀ {as : List Ar} {E : En} {vs : List Val} {E2 : En}, allInl as = true → gat as E = some (vs, E2) → inls as = some vs ∧ E2 = E
  | [], E, vs, E2, _, h => by simp only [gat, Option.some.injEq, Prod.mk.injEq] at h; obtain ⟨rfl, rfl⟩ := h; exact ⟨rfl, rfl⟩
  | .inl x :: r, E, vs, E2, a, h => by
    simp only [gat, Option.bind_eq_bind, Option.bind_eq_some_iff, Prod.exists] at h
    obtain ⟨xs, E3, h1, h2⟩ := h
    simp only [Option.some.injEq, Prod.mk.injEq] at h2
    obtain ⟨rfl, rfl⟩ := h2
    obtain ⟨q1, q2⟩ := gat_inls (as := r) a h1
    exact ⟨by simp [inls, q1], q2⟩
  | .inr i :: r, E, vs, E2, a, h => by cases a
theorem callG_none {g : Nat} {es : List Ex} {E E1 E2 : En} {as : List Ar} {vs : List Val} (h1 : eva Φ es E = some (as, E1)) (h2 : gat as E1 = some (vs, E2)) (h3 : Φ g vs = none) : ev Φ (.call g es) E = none := by
  simp only [ev, Option.bind_eq_bind, h1, Option.bind_some, callG, h2, h3, Option.bind_none]
theorem callG_some {g : Nat} {es : List Ex} {E E1 E2 : En} {as : List Ar} {vs : List Val} {r : Val} {os : List (Option Val)} (h1 : eva Φ es E = some (as, E1)) (h2 : gat as E1 = some (vs, E2)) (h3 : Φ g vs = some (r, os)) : ev Φ (.call g es) E = some (r, scat as os E2) := by
  simp only [ev, Option.bind_eq_bind, h1, Option.bind_some, callG, h2, h3]
theorem evX_some {g : Nat} {es : List Ex} {E E1 : En} {as : List Ar} {vs : List Val} {x : Exn} {w : Ow} {os : List (Option Val)} (h1 : eva Φ es E = some (as, E1)) (h2 : inls as = some vs) (h3 : Φ (g + RZ) vs = some ((errD x, w), os)) (hx : x.1 < 16) : evX Φ g es E = some (x, E1) := by
  simp only [evX, Option.bind_eq_bind, h1, Option.bind_some, h2, h3, errD]
  rw [if_pos (Nat.le_add_right _ _), exn_err hx]

theorem X_sc {i g es E N R X} (h : W.EVa Φ es E fun as E1 => W.GA as E1 fun vs E2 => W.CLX Φ g vs (fun r os => PUT (scat as os E2) fun E3 => PUT (E3.set i (some r)) N) fun x => allInl as = true ∧ X x E1) : W.EXX Φ (.sc i g es) E N R X := by
  obtain ⟨as, E1, h1, vs, E2, h2, hc⟩ := h
  show EXX Φ (.sc i g es) E N R X
  unfold EXX
  simp only [ex]
  rcases hc with ⟨r, os, h3, p⟩ | ⟨x, ⟨h3, hx, w, os, h4⟩, ha, p⟩
  · rw [callG_some h1 h2 h3]
    exact ⟨_, rfl, p⟩
  · obtain ⟨q1, rfl⟩ := gat_inls ha h2
    rw [callG_none h1 h2 h3, evX_some h1 q1 h4 hx]
    exact ⟨_, rfl, p⟩
theorem clxN {g vs A C P} (h : CL Φ g vs P) (k : ∀ r os, P r os → A r os) : W.CLX Φ g vs A C := .inl (h.imp k)
theorem clxX {g vs A C x} (h : CE Φ g vs x) (k : C x) : W.CLX Φ g vs A C := .inr ⟨x, h, k⟩

theorem W_xc {g es E N R} : W.EX Φ (.xc g es) E N R ↔ W.EV Φ (.call g es) E fun _ E1 => N E1 := by
  show EX Φ (.xc g es) E N R ↔ EV Φ (.call g es) E fun _ E1 => N E1
  unfold EX EV
  simp only [ex]
  constructor
  · rintro ⟨o, h, p⟩
    cases hc : ev Φ (.call g es) E with
    | some r =>
      rw [hc] at h
      simp only [Option.some.injEq] at h
      subst h
      exact ⟨r.1, r.2, rfl, p⟩
    | none =>
      rw [hc] at h
      rw [Option.map_eq_some_iff] at h
      obtain ⟨_, _, rfl⟩ := h
      exact p.elim
  · rintro ⟨x, E1, h, p⟩
    rw [h]
    exact ⟨_, rfl, p⟩
theorem W_sc {i g es E N R} : W.EX Φ (.sc i g es) E N R ↔ W.EV Φ (.call g es) E fun x E1 => PUT (E1.set i (some x)) N := by
  show EX Φ (.sc i g es) E N R ↔ EV Φ (.call g es) E fun x E1 => N (E1.set i (some x))
  unfold EX EV
  simp only [ex]
  constructor
  · rintro ⟨o, h, p⟩
    cases hc : ev Φ (.call g es) E with
    | some r =>
      rw [hc] at h
      simp only [Option.some.injEq] at h
      subst h
      exact ⟨r.1, r.2, rfl, p⟩
    | none =>
      rw [hc] at h
      rw [Option.map_eq_some_iff] at h
      obtain ⟨_, _, rfl⟩ := h
      exact p.elim
  · rintro ⟨x, E1, h, p⟩
    rw [h]
    exact ⟨_, rfl, p⟩
theorem W_ic {g es a b E N R} : W.EX Φ (.ic g es a b) E N R ↔ W.EV Φ (.call g es) E fun x E1 => BR x.1 (fun _ => W.EX Φ b E1 N R) fun _ => W.EX Φ a E1 N R := by
  show EX Φ (.ic g es a b) E N R ↔ EV Φ (.call g es) E fun x E1 => (x.1 = .bl true ∧ EX Φ b E1 N R) ∨ (x.1 = .bl false ∧ EX Φ a E1 N R)
  unfold EX EV
  simp only [ex]
  constructor
  · rintro ⟨o, h, p⟩
    cases hc : ev Φ (.call g es) E with
    | some r =>
      obtain ⟨⟨d, w⟩, E1⟩ := r
      rw [hc] at h
      simp only at h
      cases d with
      | bl k => cases k with
        | true => exact ⟨_, _, rfl, .inl ⟨rfl, o, h, p⟩⟩
        | false => exact ⟨_, _, rfl, .inr ⟨rfl, o, h, p⟩⟩
      | _ => cases h
    | none =>
      rw [hc] at h
      rw [Option.map_eq_some_iff] at h
      obtain ⟨_, _, rfl⟩ := h
      exact p.elim
  · rintro ⟨⟨d, w⟩, E1, h, ⟨e, o, h2, p⟩ | ⟨e, o, h2, p⟩⟩
    · have e : d = .bl true := e
      subst e
      rw [h]
      exact ⟨o, h2, p⟩
    · have e : d = .bl false := e
      subst e
      rw [h]
      exact ⟨o, h2, p⟩
theorem W_try {c j i body E N R} : W.EX Φ (.try_ c j i body) E N R ↔ W.EXX Φ body E N R fun x E1 => (c = 0 ∨ c = x.1) ∧ PUT ((E1.set i (some (errD x, .deep))).set j none) fun E2 => N E2 := by
  show EX Φ (.try_ c j i body) E N R ↔ EXX Φ body E N R fun x E1 => (c = 0 ∨ c = x.1) ∧ N ((E1.set i (some (errD x, .deep))).set j none)
  unfold EX EXX
  simp only [ex]
  cases hb : ex Φ body E with
  | none => simp
  | some o =>
    cases o with
    | nx E1 => simp
    | rt v E1 => simp
    | rs x E1 =>
      simp only [Option.some.injEq, exists_eq_left']
      by_cases h : c = 0 ∨ c = x.1
      · rw [if_pos h]; simp [h]
      · rw [if_neg h]; simp [h]
theorem W_tryU {k j i z body E N R} : W.EX Φ (.tryU k j i z body) E N R ↔ W.EXX Φ body E N R fun x E1 => x.2 = 0 ∧ if (k == 0 || k == 99 || k == x.1) = true then PUT ((E1.set i (some (.str z, .deep))).set j none) fun E2 => N E2 else PUT (E1.set j none) fun E2 => N E2 := by
  show EX Φ (.tryU k j i z body) E N R ↔ EXX Φ body E N R fun x E1 => x.2 = 0 ∧ if (k == 0 || k == 99 || k == x.1) = true then N ((E1.set i (some (.str z, .deep))).set j none) else N (E1.set j none)
  unfold EX EXX
  simp only [ex]
  cases hb : ex Φ body E with
  | none => simp
  | some o =>
    cases o with
    | nx E1 => simp
    | rt v E1 => simp
    | rs x E1 =>
      simp only [Option.some.injEq, exists_eq_left']
      by_cases h : x.2 = 0
      · rw [if_pos h]
        by_cases h2 : (k == 0 || k == 99 || k == x.1) = true
        · simp [h, h2]
        · simp [h, h2]
      · rw [if_neg h]; simp [h]
theorem ce_def {tab : Nat → Option Def} [hT : SmallT tab] {n g : Nat} {d : Def} {vs : List Val} {x : Exn} (ht : tab g = some d) (hl : vs.length = d.np) (hx : x.1 < 16) (h : W.EXX (call tab n) d.body (vs.map some ++ List.replicate (d.ns - d.np) none) (fun _ => False) (fun _ _ => False) fun y _ => y = x) : CE (call tab (n + 1)) g vs x := by
  obtain ⟨o, h1, h2⟩ := h
  have h3 : tab (g + RZ) = none := hT.no _ (Nat.le_trans (by decide) (Nat.le_add_left RZ g))
  cases o with
  | nx E => exact h2.elim
  | rt v E => exact h2.elim
  | rs y E =>
    have h2 : y = x := h2
    subst h2
    refine ⟨?_, hx, .deep, [], ?_⟩
    · simp only [call, ht, callD, hl, if_true]
      rw [h1]
    · rw [callx_eq h3 ht]
      simp only [callX, hl, if_true]
      rw [h1]
end

theorem plain_err {x} : plain (errD x) = true := by unfold errD; rw [plain_fn]
theorem kplain_err {x} : kplain (errD x) = true := rfl
theorem vl_err {x w} : vl (errD x) w = (errD x, .deep) := vl_t plain_err
theorem isNon_err {x} : isNon (errD x) = false := rfl
theorem isDicD_err {x} : isDicD (errD x) = false := rfl
theorem a1_isCe {cs c} (h : c < 11) : app1 (.isC cs) (errD (c, 0)) = some (.bl (cs.any fun k => k == 0 || k == 99 || k == c)) := by
  show (isCD cs (.fn (EB + (c + 16 * 0)))).map D.bl = _
  have e : exnOf (EB + (c + 16 * 0)) = (c, 0) := exn_err (x := (c, 0)) (Nat.lt_trans h (by decide))
  simp only [isCD]
  rw [e, if_pos ⟨Nat.le_add_right _ _, rfl⟩]
  rfl
theorem a1_isCn {cs} : app1 (.isC cs) .non = some (.bl false) := rfl
theorem a1_isCb {cs b} : app1 (.isC cs) (.bl b) = some (.bl false) := rfl
theorem a1_isCi {cs b} : app1 (.isC cs) (.int b) = some (.bl false) := rfl
theorem a1_isCs {cs b} : app1 (.isC cs) (tx b) = some (.bl false) := rfl
theorem a1_isCl {cs b} : app1 (.isC cs) (.lst b) = some (.bl false) := rfl
theorem a1_isCt {cs b} : app1 (.isC cs) (.tup b) = some (.bl false) := rfl
theorem a1_isCd {cs b} : app1 (.isC cs) (.dic false b) = some (.bl false) := rfl
theorem wrS_rs {c} : wrS (.rs c) = [] := by rw [wrS]
theorem wrS_xc {g es} : wrS (.xc g es) = wrs es := by rw [wrS]
theorem wrS_sc {i g es} : wrS (.sc i g es) = i :: wrs es := by rw [wrS]
theorem wrS_ic {g es a b} : wrS (.ic g es a b) = wrs es ++ (wrS a ++ wrS b) := by rw [wrS]
theorem a1_tru {i : Int} : app1 .tru (.int i) = some (.bl (!decide (i = 0))) := rfl
theorem wrS_forTv {is i b} : wrS (.forT is (.var i) b) = i :: (is ++ wrS b) := by rw [wrS]; rfl
theorem wrS_forTl {is i k b} : wrS (.forT is (.ix (.var i) k) b) = i :: (is ++ wrS b) := by rw [wrS]; rfl
theorem W_forT {is e b E N R} : W.EX Φ (.forT is e b) E N R ↔ OP (rowsT e E) fun r => PUT (E.set r.1 (some (r.2.1, .sh))) fun E' => W.FL Φ (.t is) b (r.2.2.map (·.1)) E' N R := by
  show EX Φ (.forT is e b) E N R ↔ ∃ r, rowsT e E = some r ∧ FL Φ (.t is) b (r.2.2.map (·.1)) (E.set r.1 (some (r.2.1, .sh))) N R
  unfold EX FL
  constructor
  · rintro ⟨o, h, p⟩
    simp only [ex] at h
    split at h
    · rename_i i d kvs e1
      exact ⟨(i, d, kvs), e1, o, h, p⟩
    · cases h
  · rintro ⟨⟨i, d, kvs⟩, e1, o, h, p⟩
    refine ⟨o, ?_, p⟩
    simp only [ex, e1]
    exact h
theorem wrS_swp {i a b} : wrS (.swp i a b) = i :: (wr (.tup [.ix (.var i) b, .ix (.var i) a]) ++ (wr a ++ wr b)) := by rw [wrS]
theorem X_swp {i a b E N R X} : W.EXX Φ (.swp i a b) E N R X ↔ W.EX Φ (.swp i a b) E N R := X_no rfl
theorem idxE_int {k : Int} {E : En} : idxE (.int k) E = some k := rfl
theorem idxE_var {j : Nat} {E : En} : idxE (.var j) E = idxV E[j]? := rfl
theorem idxV_some {k : Int} {w : Ow} : idxV (some (some (.int k, w))) = some k := rfl
theorem W_swp {i a b E N R} : W.EX Φ (.swp i a b) E N R ↔ GS i E fun z => z.2 = .deep ∧ OP (idxE a E) fun k1 => OP (idxE b E) fun k2 => OP (swpD z.1 k1 k2) fun d => PUT (E.set i (some (d, .deep))) N := by
  show EX Φ (.swp i a b) E N R ↔ ∃ x, E[i]? = some (some x) ∧ (x.2 = .deep ∧ ∃ k1, idxE a E = some k1 ∧ ∃ k2, idxE b E = some k2 ∧ ∃ d, swpD x.1 k1 k2 = some d ∧ N (E.set i (some (d, .deep))))
  unfold EX
  constructor
  · rintro ⟨o, h, p⟩
    simp only [ex] at h
    split at h
    · rename_i d e
      split at h
      · rename_i k1 k2 e1 e2
        simp only [Option.map_eq_some_iff] at h
        obtain ⟨d', h1, rfl⟩ := h
        exact ⟨_, e, rfl, k1, e1, k2, e2, d', h1, p⟩
      · cases h
    · cases h
  · rintro ⟨⟨d, w⟩, e, h1, k1, e1, k2, e2, d', h2, p⟩
    cases h1
    refine ⟨.nx (E.set i (some (d', .deep))), ?_, p⟩
    simp only [ex, e, e1, e2, h2, Option.map_some]
theorem wrS_apN {i j k} : wrS (.apN i j k) = [i, j] := by rw [wrS]
theorem X_apN {i j k E N R X} : W.EXX Φ (.apN i j k) E N R X ↔ W.EX Φ (.apN i j k) E N R := X_no rfl
def apND (k : Int) : D → Option D
  | .dic false kvs => if intKeys kvs = true then apN k (kvs.map (·.1)) (.dic false kvs) else none
  | _ => none
theorem W_apN {i j k E N R} : W.EX Φ (.apN i j k) E N R ↔ GS i E fun z => z.2 = .deep ∧ ¬ i = j ∧ j < E.length ∧ OP (apND k z.1) fun d => PUT ((E.set i (some (d, .deep))).set j none) N := by
  show EX Φ (.apN i j k) E N R ↔ ∃ x, E[i]? = some (some x) ∧ (x.2 = .deep ∧ ¬ i = j ∧ j < E.length ∧ ∃ d, apND k x.1 = some d ∧ N ((E.set i (some (d, .deep))).set j none))
  unfold EX
  constructor
  · rintro ⟨o, h, p⟩
    simp only [ex] at h
    split at h
    · rename_i kvs e
      split at h
      · cases h
      · rename_i hc
        rw [not_or, not_or] at hc
        obtain ⟨d, h1, rfl⟩ := Option.map_eq_some_iff.mp h
        refine ⟨_, e, rfl, hc.1, by omega, d, ?_, p⟩
        simp only [apND]
        rw [if_pos (by simpa using hc.2.1)]
        exact h1
    · cases h
  · rintro ⟨⟨x, w⟩, e, hw, hij, hj, d, h1, p⟩
    simp only at hw
    subst hw
    cases x with
    | dic t kvs =>
      cases t with
      | true => simp [apND] at h1
      | false =>
        simp only [apND] at h1
        split at h1
        · rename_i hk
          refine ⟨.nx ((E.set i (some (d, .deep))).set j none), ?_, p⟩
          simp only [ex, e]
          rw [if_neg (by rw [not_or, not_or]; exact ⟨hij, by rw [hk]; decide, by omega⟩), h1]
          rfl
        · cases h1
    | _ => simp [apND] at h1
theorem wrS_popK {i l} : wrS (.popK i l) = [i] := by rw [wrS]
theorem X_popK {i l E N R X} : W.EXX Φ (.popK i l) E N R X ↔ W.EX Φ (.popK i l) E N R := X_no rfl
def popKD : D → D → Option D
  | .dic false kvs, .int n => if dhas kvs (.int n) = true then some .non else none
  | _, _ => none
theorem W_popK {i l E N R} : W.EX Φ (.popK i l) E N R ↔ GS i E fun z => z.2 = .deep ∧ GS l E fun y => OP (popKD z.1 y.1) fun _ => PUT (E.set i none) N := by
  show EX Φ (.popK i l) E N R ↔ ∃ x, E[i]? = some (some x) ∧ (x.2 = .deep ∧ ∃ y, E[l]? = some (some y) ∧ ∃ d, popKD x.1 y.1 = some d ∧ N (E.set i none))
  unfold EX
  constructor
  · rintro ⟨o, h, p⟩
    simp only [ex] at h
    split at h
    · rename_i kvs n w e1 e2
      split at h
      · rename_i hc
        cases h
        refine ⟨_, e1, rfl, _, e2, .non, ?_, p⟩
        simp only [popKD]
        rw [if_pos hc]
      · cases h
    · cases h
  · rintro ⟨⟨x, w⟩, e1, hw, ⟨y, w2⟩, e2, d, h1, p⟩
    simp only at hw
    subst hw
    cases x with
    | dic t kvs =>
      cases t with
      | true => simp [popKD] at h1
      | false =>
        cases y with
        | int n =>
          simp only [popKD] at h1
          split at h1
          · rename_i hk
            refine ⟨.nx (E.set i none), ?_, p⟩
            simp only [ex, e1, e2]
            rw [if_pos hk]
          · cases h1
        | _ => simp [popKD] at h1
    | _ => simp [popKD] at h1
theorem wrS_popS {i} : wrS (.popS i) = [i] := by rw [wrS]
theorem X_popS {i E N R X} : W.EXX Φ (.popS i) E N R X ↔ W.EX Φ (.popS i) E N R := X_no rfl
def popD : D → Option D
  | .lst xs => if xs.isEmpty = false then some (.lst xs.dropLast) else none
  | _ => none
theorem W_popS {i E N R} : W.EX Φ (.popS i) E N R ↔ GS i E fun z => z.2 ≠ .sh ∧ OP (popD z.1) fun d => PUT (E.set i (some (d, z.2))) N := by
  show EX Φ (.popS i) E N R ↔ ∃ x, E[i]? = some (some x) ∧ (x.2 ≠ .sh ∧ ∃ d, popD x.1 = some d ∧ N (E.set i (some (d, x.2))))
  unfold EX
  constructor
  · rintro ⟨o, h, p⟩
    simp only [ex] at h
    split at h
    · rename_i xs w e
      split at h
      · rename_i hc
        cases h
        exact ⟨_, e, hc.1, _, if_pos hc.2, p⟩
      · cases h
    · cases h
  · rintro ⟨⟨d, w⟩, e, h1, d1, h2, p⟩
    refine ⟨.nx (E.set i (some (d1, w))), ?_, p⟩
    cases d with
    | lst xs =>
      simp only [popD] at h2
      split at h2
      · rename_i h3
        cases h2
        simp only [ex, e]
        rw [if_pos ⟨h1, h3⟩]
      · cases h2
    | _ => cases h2
theorem EV_sset {a E P} : EV Φ (.opP .sset a) E P ↔ EV Φ a E fun x E1 => ∃ d, (match x.1 with | .lst xs => (match intsOf xs with | some ns => if ns.length < 64 then some (D.lst ((sortI (dedup ns)).map .int)) else none | none => none) | _ => none) = some d ∧ P (d, .deep) E1 := by
  unfold EV
  simp only [ev, Option.bind_eq_bind, Option.bind_eq_some_iff, Prod.exists]
  constructor
  · rintro ⟨x, w, E', ⟨xd, xw, E1, h1, h2⟩, p⟩
    refine ⟨xd, xw, E1, h1, ?_⟩
    cases xd with
    | lst xs =>
      cases hi : intsOf xs with
      | none => simp [hi] at h2
      | some ns =>
        simp only [hi, Option.ite_none_right_eq_some, Option.some.injEq, Prod.mk.injEq] at h2
        obtain ⟨hl, ⟨rfl, rfl⟩, rfl⟩ := h2
        exact ⟨_, by simp only [hi]; rw [if_pos hl], p⟩
    | _ => simp at h2
  · rintro ⟨xd, xw, E1, h1, d, h2, p⟩
    cases xd with
    | lst xs =>
      cases hi : intsOf xs with
      | none => simp [hi] at h2
      | some ns =>
        simp only [hi, Option.ite_none_right_eq_some, Option.some.injEq] at h2
        obtain ⟨hl, rfl⟩ := h2
        exact ⟨_, _, E1, ⟨.lst xs, xw, E1, h1, by simp only [hi]; rw [if_pos hl]⟩, p⟩
    | _ => simp at h2
def ssetD : D → Option D
  | .lst xs => (match intsOf xs with | some ns => if ns.length < 64 then some (D.lst ((sortI (dedup ns)).map .int)) else none | none => none)
  | _ => none
theorem W_sset {a E P} : W.EV Φ (.opP .sset a) E P ↔ W.EV Φ a E fun x E1 => OP (ssetD x.1) fun d => P (d, .deep) E1 := by
  refine EV_sset.trans ?_
  show EV Φ a E _ ↔ EV Φ a E fun x E1 => ∃ d, ssetD x.1 = some d ∧ P (d, .deep) E1
  have e : ∀ x : D, (match x with | .lst xs => (match intsOf xs with | some ns => if ns.length < 64 then some (D.lst ((sortI (dedup ns)).map .int)) else none | none => none) | _ => none) = ssetD x := fun x => by cases x <;> rfl
  simp only [e]
theorem sset_l {l : List Int} : ssetD (.lst (l.map D.int)) = if l.length < 64 then some (.lst ((sortI (dedup l)).map D.int)) else none := by
  simp only [ssetD, intsOf_map]
theorem popD_l {xs : List D} : popD (.lst xs) = if xs.isEmpty = false then some (.lst xs.dropLast) else none := rfl
theorem wrS_apw {j i s} : wrS (.apw j i s) = j :: (i :: wrS s) := by rw [wrS]
theorem wrS_tryU {c j i z b} : wrS (.tryU c j i z b) = j :: (i :: wrS b) := by rw [wrS]
theorem wrS_try {c j i b} : wrS (.try_ c j i b) = j :: (i :: wrS b) := by rw [wrS]
end BS

set_option Elab.async false
set_option linter.all false
set_option maxRecDepth 100000
set_option maxHeartbeats 0
namespace BS
open PySem L2
/-! the text in the evaluator's syntax -/
abbrev g_law_cell_at : Nat := 0
abbrev g_law_pool : Nat := 1
abbrev g_law_take : Nat := 2
abbrev g_law_plain : Nat := 3
abbrev g_law_saying : Nat := 4
abbrev g_show_saying : Nat := 5
abbrev g_law_sign : Nat := 6
abbrev g_law_other : Nat := 7
abbrev g_split_place : Nat := 8
abbrev g_joined_in : Nat := 9
abbrev g_many_in : Nat := 10
abbrev g_saying_in : Nat := 11
abbrev g_read_saying : Nat := 12
abbrev g_law_told_k13 : Nat := 13
abbrev g_law_number_k13 : Nat := 14
abbrev g_law_read_k13 : Nat := 15
abbrev g_law_k13 : Nat := 16
theorem st_74726565 : D.str "tree" = tx [116, 114, 101, 101] := congrArg D.str (by decide +kernel)
theorem st_6e656172 : D.str "near" = tx [110, 101, 97, 114] := congrArg D.str (by decide +kernel)
theorem st_62617265 : D.str "bare" = tx [98, 97, 114, 101] := congrArg D.str (by decide +kernel)
theorem st_7369646573 : D.str "sides" = tx [115, 105, 100, 101, 115] := congrArg D.str (by decide +kernel)
theorem st_6f6464 : D.str "odd" = tx [111, 100, 100] := congrArg D.str (by decide +kernel)
theorem st_70616972696e67 : D.str "pairing" = tx [112, 97, 105, 114, 105, 110, 103] := congrArg D.str (by decide +kernel)
theorem st_6368656170657374 : D.str "cheapest" = tx [99, 104, 101, 97, 112, 101, 115, 116] := congrArg D.str (by decide +kernel)
theorem st_726f756e64 : D.str "round" = tx [114, 111, 117, 110, 100] := congrArg D.str (by decide +kernel)
theorem st_62616c6c : D.str "ball" = tx [98, 97, 108, 108] := congrArg D.str (by decide +kernel)
theorem st_6d616e79 : D.str "many" = tx [109, 97, 110, 121] := congrArg D.str (by decide +kernel)
theorem st_626f7468 : D.str "both" = tx [98, 111, 116, 104] := congrArg D.str (by decide +kernel)
theorem st_656974686572 : D.str "either" = tx [101, 105, 116, 104, 101, 114] := congrArg D.str (by decide +kernel)
theorem st_29 : D.str ")" = tx [41] := congrArg D.str (by decide +kernel)
theorem st_6d616e7920 : D.str "many " = tx [109, 97, 110, 121, 32] := congrArg D.str (by decide +kernel)
theorem st_2c20 : D.str ", " = tx [44, 32] := congrArg D.str (by decide +kernel)
theorem st_28 : D.str "(" = tx [40] := congrArg D.str (by decide +kernel)
theorem st_abffc981e44a : D.str " !\"#$&'()*+,-./0123456789:;<=>?@ABCDEFGHIJKLMNOPQRSTUVWXYZ[\\]^_`" = tx [32, 33, 34, 35, 36, 38, 39, 40, 41, 42, 43, 44, 45, 46, 47, 48, 49, 50, 51, 52, 53, 54, 55, 56, 57, 58, 59, 60, 61, 62, 63, 64, 65, 66, 67, 68, 69, 70, 71, 72, 73, 74, 75, 76, 77, 78, 79, 80, 81, 82, 83, 84, 85, 86, 87, 88, 89, 90, 91, 92, 93, 94, 95, 96] := congrArg D.str (by decide +kernel)
theorem st_e82b69c6dcff : D.str "abcdefghijklmnopqrstuvwxyz{|}~\n\t" = tx [97, 98, 99, 100, 101, 102, 103, 104, 105, 106, 107, 108, 109, 110, 111, 112, 113, 114, 115, 116, 117, 118, 119, 120, 121, 122, 123, 124, 125, 126, 10, 9] := congrArg D.str (by decide +kernel)
theorem st_28292c2030313539 : D.str "(), 0159" = tx [40, 41, 44, 32, 48, 49, 53, 57] := congrArg D.str (by decide +kernel)
theorem st_2c : D.str "," = tx [44] := congrArg D.str (by decide +kernel)
theorem st_ : D.str "" = tx [] := congrArg D.str (by decide +kernel)
theorem st_30 : D.str "0" = tx [48] := congrArg D.str (by decide +kernel)
theorem st_6e6f2074657874 : D.str "no text" = tx [110, 111, 32, 116, 101, 120, 116] := congrArg D.str (by decide +kernel)
theorem st_6e6f20736179696e67 : D.str "no saying" = tx [110, 111, 32, 115, 97, 121, 105, 110, 103] := congrArg D.str (by decide +kernel)
theorem st_616e6f74686572 : D.str "another" = tx [97, 110, 111, 116, 104, 101, 114] := congrArg D.str (by decide +kernel)
theorem st_30313233343536373839 : D.str "0123456789" = tx [48, 49, 50, 51, 52, 53, 54, 55, 56, 57] := congrArg D.str (by decide +kernel)
theorem st_20 : D.str " " = tx [32] := congrArg D.str (by decide +kernel)
theorem st_6d616e792030 : D.str "many 0" = tx [109, 97, 110, 121, 32, 48] := congrArg D.str (by decide +kernel)
theorem st_6d616e792034303936 : D.str "many 4096" = tx [109, 97, 110, 121, 32, 52, 48, 57, 54] := congrArg D.str (by decide +kernel)
theorem st_6d616e79203035 : D.str "many 05" = tx [109, 97, 110, 121, 32, 48, 53] := congrArg D.str (by decide +kernel)
theorem st_6d616e79202035 : D.str "many  5" = tx [109, 97, 110, 121, 32, 32, 53] := congrArg D.str (by decide +kernel)
theorem st_626f7468287472656529 : D.str "both(tree)" = tx [98, 111, 116, 104, 40, 116, 114, 101, 101, 41] := congrArg D.str (by decide +kernel)
theorem st_cffa957422c7 : D.str "both(tree,near)" = tx [98, 111, 116, 104, 40, 116, 114, 101, 101, 44, 110, 101, 97, 114, 41] := congrArg D.str (by decide +kernel)
theorem st_c9905e9462b5 : D.str "both(tree, near, odd)" = tx [98, 111, 116, 104, 40, 116, 114, 101, 101, 44, 32, 110, 101, 97, 114, 44, 32, 111, 100, 100, 41] := congrArg D.str (by decide +kernel)
theorem st_28747265652c206e65617229 : D.str "(tree, near)" = tx [40, 116, 114, 101, 101, 44, 32, 110, 101, 97, 114, 41] := congrArg D.str (by decide +kernel)
theorem st_9ed719ec24b0 : D.str "both (tree, near)" = tx [98, 111, 116, 104, 32, 40, 116, 114, 101, 101, 44, 32, 110, 101, 97, 114, 41] := congrArg D.str (by decide +kernel)
theorem st_54726565 : D.str "Tree" = tx [84, 114, 101, 101] := congrArg D.str (by decide +kernel)
theorem st_747265650a : D.str "tree\n" = tx [116, 114, 101, 101, 10] := congrArg D.str (by decide +kernel)
theorem st_6d616e79202d31 : D.str "many -1" = tx [109, 97, 110, 121, 32, 45, 49] := congrArg D.str (by decide +kernel)
theorem st_feeb9589fd1b : D.str "either(many 4095, both(odd, ball))" = tx [101, 105, 116, 104, 101, 114, 40, 109, 97, 110, 121, 32, 52, 48, 57, 53, 44, 32, 98, 111, 116, 104, 40, 111, 100, 100, 44, 32, 98, 97, 108, 108, 41, 41] := congrArg D.str (by decide +kernel)
theorem st_626f746828 : D.str "both(" = tx [98, 111, 116, 104, 40] := congrArg D.str (by decide +kernel)
theorem st_2c206e65617229 : D.str ", near)" = tx [44, 32, 110, 101, 97, 114, 41] := congrArg D.str (by decide +kernel)
theorem st_31 : D.str "1" = tx [49] := congrArg D.str (by decide +kernel)
def s_law_cell_at : Ss := .seq (.ite (.op2 .lt (.var 1) (.op1 .len (.var 0))) (.ret (.ix (.var 0) (.var 1))) (.skip)) (.ret (.int 0))
def d_law_cell_at : Def := ⟨2, 2, s_law_cell_at⟩
def s_law_pool : Ss := .seq (.set (.v 2) (.call g_law_cell_at [.var 0, .var 1])) (.seq (.set (.v 3) (.op2 .mod (.op2 .mul (.op2 .add (.op2 .add (.op2 .mod (.var 2) (.int 2147483629)) (.op2 .mul (.op2 .mul (.int 7919) (.var 1)) (.var 1))) (.int 1)) (.int 48271)) (.int 2147483647))) (.seq (.ite (.op2 .lt (.var 2) (.op2 .pow (.int 10) (.int 18))) (.set (.v 2) (.int 0)) (.skip)) (.ret (.lst [.var 2, .op2 .mod (.op2 .mul (.var 3) (.var 3)) (.int 2147483629)]))))
def d_law_pool : Def := ⟨2, 4, s_law_pool⟩
def s_law_take : Ss := .seq (.ite (.op2 .gt (.ix (.var 0) (.int 0)) (.int 0)) (.seq (.set (.v 2) (.op2 .mod (.ix (.var 0) (.int 0)) (.var 1))) (.seq (.setIx 0 (.int 0) (.op2 .fdiv (.ix (.var 0) (.int 0)) (.var 1))) (.ret (.var 2)))) (.skip)) (.seq (.setIx 0 (.int 1) (.op2 .mod (.op2 .add (.op2 .mul (.ix (.var 0) (.int 1)) (.int 48271)) (.int 11)) (.int 2147483647))) (.ret (.op2 .mod (.op2 .fdiv (.op2 .mod (.op2 .mul (.ix (.var 0) (.int 1)) (.ix (.var 0) (.int 1))) (.int 2147483629)) (.int 64)) (.var 1))))
def d_law_take : Def := ⟨2, 3, s_law_take⟩
def s_law_plain : Ss := .seq (.set (.v 1) (.lst [.str "tree", .str "near", .str "bare", .str "sides", .str "odd", .str "pairing", .str "cheapest", .str "round", .str "ball", .str "many"])) (.seq (.set (.v 2) (.ix (.var 1) (.call g_law_take [.io 0, .int 10]))) (.seq (.ite (.op2 .eq (.var 2) (.str "many")) (.ret (.tup [.var 2, .op2 .add (.int 1) (.call g_law_take [.io 0, .ix (.lst [.int 9, .int 64, .int 4095]) (.call g_law_take [.io 0, .int 3])])])) (.skip)) (.ret (.tup [.var 2]))))
def d_law_plain : Def := ⟨1, 3, s_law_plain⟩
def s_law_saying : Ss := .seq (.ite (.or (.op2 .eq (.var 1) (.int 0)) (.op2 .eq (.call g_law_take [.io 0, .int 3]) (.int 0))) (.ret (.call g_law_plain [.io 0])) (.skip)) (.seq (.set (.v 2) (.ix (.lst [.str "both", .str "either"]) (.call g_law_take [.io 0, .int 2]))) (.seq (.set (.v 3) (.call g_law_saying [.io 0, .op2 .sub (.var 1) (.int 1)])) (.ret (.tup [.var 2, .var 3, .call g_law_saying [.io 0, .op2 .sub (.var 1) (.int 1)]]))))
def d_law_saying : Def := ⟨2, 4, s_law_saying⟩
def s_show_saying : Ss := .seq (.ite (.inG false (.ix (.var 0) (.int 0)) ["both", "either"]) (.ret (.op2 .add (.op2 .add (.op2 .add (.op2 .add (.op2 .add (.ix (.var 0) (.int 0)) (.str "(")) (.call g_show_saying [.ix (.var 0) (.int 1)])) (.str ", ")) (.call g_show_saying [.ix (.var 0) (.int 2)])) (.str ")"))) (.skip)) (.seq (.ite (.op2 .eq (.ix (.var 0) (.int 0)) (.str "many")) (.ret (.op2 .add (.str "many ") (.op1 .str (.ix (.var 0) (.int 1))))) (.skip)) (.ret (.ix (.var 0) (.int 0))))
def d_show_saying : Def := ⟨1, 1, s_show_saying⟩
def s_law_sign : Ss := .seq (.set (.v 1) (.str " !\"#$&'()*+,-./0123456789:;<=>?@ABCDEFGHIJKLMNOPQRSTUVWXYZ[\\]^_`")) (.seq (.set (.v 1) (.op2 .add (.var 1) (.str "abcdefghijklmnopqrstuvwxyz{|}~\n\t"))) (.ret (.ix (.var 1) (.call g_law_take [.io 0, .op1 .len (.var 1)]))))
def d_law_sign : Def := ⟨1, 2, s_law_sign⟩
def s_law_other : Ss := .seq (.set (.v 2) (.call g_law_take [.io 1, .op2 .add (.op1 .len (.var 0)) (.int 1)])) (.seq (.set (.v 3) (.call g_law_take [.io 1, .int 3])) (.seq (.set (.v 4) (.ix (.lst [.call g_law_sign [.io 1], .ix (.str "(), 0159") (.call g_law_take [.io 1, .int 8])]) (.call g_law_take [.io 1, .int 2]))) (.seq (.ite (.op2 .eq (.var 3) (.int 0)) (.ret (.op2 .add (.op2 .add (.sl (.var 0) (.non) (.var 2)) (.var 4)) (.sl (.var 0) (.var 2) (.non)))) (.skip)) (.ret (.op2 .add (.op2 .add (.sl (.var 0) (.non) (.var 2)) (.op2 .mul (.var 4) (.op1 .int (.op2 .eq (.var 3) (.int 1))))) (.sl (.var 0) (.op2 .add (.var 2) (.int 1)) (.non)))))))
def d_law_other : Def := ⟨2, 5, s_law_other⟩
def s_split_place : Ss := .seq (.set (.v 1) (.int 0)) (.seq (.for_ (.t [2, 3]) .enuS [.var 0] (.ite (.op2 .eq (.var 3) (.str "(")) (.set (.v 1) (.op2 .add (.var 1) (.int 1))) (.ite (.op2 .eq (.var 3) (.str ")")) (.set (.v 1) (.op2 .sub (.var 1) (.int 1))) (.ite (.and (.op2 .eq (.var 3) (.str ",")) (.op2 .eq (.var 1) (.int 0))) (.ret (.var 2)) (.skip))))) (.ret (.non)))
def d_split_place : Def := ⟨1, 4, s_split_place⟩
def s_joined_in : Ss := .seq (.set (.t [6, 7, 2]) (.opP (.part "(") (.var 0))) (.seq (.ite (.or (.op2 .eq (.var 7) (.str "")) (.or (.inG true (.var 6) ["both", "either"]) (.or (.op2 .eq (.var 1) (.int 0)) (.op2 .ne (.sl (.var 2) (.op1 .neg (.int 1)) (.non)) (.str ")"))))) (.ret (.non)) (.skip)) (.seq (.set (.v 2) (.sl (.var 2) (.non) (.op1 .neg (.int 1)))) (.seq (.set (.v 3) (.call g_split_place [.var 2])) (.seq (.ite (.or (.op1 .isN (.var 3)) (.op2 .ne (.sl (.var 2) (.var 3) (.op2 .add (.var 3) (.int 2))) (.str ", "))) (.ret (.non)) (.skip)) (.seq (.set (.v 4) (.call g_saying_in [.sl (.var 2) (.non) (.var 3), .op2 .sub (.var 1) (.int 1)])) (.seq (.set (.v 5) (.call g_saying_in [.sl (.var 2) (.op2 .add (.var 3) (.int 2)) (.non), .op2 .sub (.var 1) (.int 1)])) (.seq (.ite (.or (.op1 .isN (.var 4)) (.op1 .isN (.var 5))) (.ret (.non)) (.skip)) (.ret (.tup [.var 6, .var 4, .var 5])))))))))
def d_joined_in : Def := ⟨2, 8, s_joined_in⟩
def s_many_in : Ss := .seq (.ite (.or (.op1 .not (.and (.op2 .le (.int 1) (.op1 .len (.var 0))) (.op2 .le (.op1 .len (.var 0)) (.int 4)))) (.op2 .eq (.ix (.var 0) (.int 0)) (.str "0"))) (.ret (.non)) (.skip)) (.seq (.for_ (.v 1) .keys [.var 0] (.ite (.op2 .NotIn (.var 1) (.str "0123456789")) (.ret (.non)) (.skip))) (.seq (.ite (.op2 .gt (.op1 .int (.var 0)) (.int 4095)) (.ret (.non)) (.skip)) (.ret (.tup [.str "many", .op1 .int (.var 0)]))))
def d_many_in : Def := ⟨1, 2, s_many_in⟩
def s_saying_in : Ss := .seq (.ite (.inG false (.var 0) ["tree", "near", "bare", "sides", "odd", "pairing", "cheapest", "round", "ball"]) (.ret (.tup [.var 0])) (.skip)) (.seq (.ite (.op1 (.starts "many ") (.var 0)) (.ret (.call g_many_in [.sl (.var 0) (.int 5) (.non)])) (.skip)) (.ret (.call g_joined_in [.var 0, .var 1])))
def d_saying_in : Def := ⟨2, 2, s_saying_in⟩
def s_read_saying : Ss := .seq (.ite (.op1 .not (.op1 (.isi .str) (.var 0))) (.rs 3) (.skip)) (.seq (.set (.v 1) (.call g_saying_in [.var 0, .int 3])) (.seq (.ite (.op1 .isN (.var 1)) (.rs 3) (.skip)) (.ret (.var 1))))
def d_read_saying : Def := ⟨1, 2, s_read_saying⟩
def s_law_told_k13 : Ss := .seq (.set (.v 1) (.non)) (.seq (.set (.v 2) (.non)) (.seq (.try_ 0 3 1 (.sc 2 g_read_saying [.var 0])) (.seq (.ite (.op1 .isN (.var 1)) (.ret (.var 2)) (.skip)) (.seq (.ite (.or (.op1 .not (.op1 (.isC [3]) (.var 1))) (.op1 .not (.op1 (.isC [99]) (.var 1)))) (.ret (.str "another")) (.skip)) (.seq (.ite (.op1 (.isC [4, 2, 1]) (.var 1)) (.ret (.str "another")) (.skip)) (.ret (.non)))))))
def d_law_told_k13 : Def := ⟨1, 4, s_law_told_k13⟩
def s_law_number_k13 : Ss := .seq (.ite (.or (.op2 .eq (.var 0) (.str "")) (.or (.op2 .gt (.op1 .len (.var 0)) (.int 4)) (.op2 .ne (.comp false (.var 1) (.v 1) .keys [.var 0] (.op2 .NotIn (.var 1) (.str "0123456789"))) (.lst [])))) (.ret (.non)) (.skip)) (.seq (.ite (.or (.op2 .eq (.ix (.var 0) (.int 0)) (.str "0")) (.op2 .gt (.op1 .int (.var 0)) (.int 4095))) (.ret (.non)) (.skip)) (.ret (.tup [.str "many", .op1 .int (.var 0)])))
def d_law_number_k13 : Def := ⟨1, 2, s_law_number_k13⟩
def s_law_read_k13 : Ss := .seq (.ite (.op2 .In (.var 0) (.lst [.str "tree", .str "near", .str "bare", .str "sides", .str "odd", .str "pairing", .str "cheapest", .str "round", .str "ball"])) (.ret (.tup [.var 0])) (.skip)) (.seq (.ite (.op2 .eq (.sl (.var 0) (.non) (.int 5)) (.str "many ")) (.ret (.call g_law_number_k13 [.sl (.var 0) (.int 5) (.non)])) (.skip)) (.seq (.for_ (.v 2) .of [.lst [.str "both", .str "either"]] (.seq (.set (.v 3) (.op2 .add (.op1 .len (.var 2)) (.int 1))) (.ite (.and (.op2 .eq (.sl (.var 0) (.non) (.var 3)) (.op2 .add (.var 2) (.str "("))) (.and (.op2 .eq (.sl (.var 0) (.op1 .neg (.int 1)) (.non)) (.str ")")) (.op2 .gt (.var 1) (.int 0)))) (.seq (.set (.v 4) (.sl (.var 0) (.var 3) (.op1 .neg (.int 1)))) (.for_ (.v 5) .rng [.op1 .len (.var 4)] (.ite (.and (.op2 .eq (.sl (.var 4) (.var 5) (.op2 .add (.var 5) (.int 2))) (.str ", ")) (.op2 .eq (.op1 (.cntS "(") (.sl (.var 4) (.non) (.var 5))) (.op1 (.cntS ")") (.sl (.var 4) (.non) (.var 5))))) (.seq (.set (.v 6) (.call g_law_read_k13 [.sl (.var 4) (.non) (.var 5), .op2 .sub (.var 1) (.int 1)])) (.seq (.set (.v 7) (.call g_law_read_k13 [.sl (.var 4) (.op2 .add (.var 5) (.int 2)) (.non), .op2 .sub (.var 1) (.int 1)])) (.ite (.and (.op1 .isNN (.var 6)) (.op1 .isNN (.var 7))) (.ret (.tup [.var 2, .var 6, .var 7])) (.skip)))) (.skip)))) (.skip)))) (.ret (.non))))
def d_law_read_k13 : Def := ⟨2, 8, s_law_read_k13⟩
def s_law_k13 : Ss := .seq (.for_ (.v 1) .rng [.op2 .max (.int 1) (.op2 .min (.op1 .len (.var 0)) (.int 20))] (.seq (.set (.v 5) (.call g_law_pool [.var 0, .var 1])) (.seq (.set (.v 6) (.call g_law_saying [.io 5, .int 3])) (.seq (.set (.v 7) (.call g_show_saying [.var 6])) (.seq (.set (.v 8) (.call g_law_other [.var 7, .io 5])) (.seq (.ite (.or (.op2 .ne (.call g_law_told_k13 [.var 8]) (.call g_law_read_k13 [.var 8, .int 3])) (.op2 .ne (.call g_law_told_k13 [.var 7]) (.var 6))) (.ret (.bl false)) (.skip)) (.ite (.op2 .ne (.call g_law_told_k13 [.op2 .add (.var 7) (.var 8)]) (.call g_law_read_k13 [.op2 .add (.var 7) (.var 8), .int 3])) (.ret (.bl false)) (.skip)))))))) (.seq (.set (.v 2) (.lst [.str "", .str " ", .str "many", .str "many ", .str "many 0", .str "many 4096", .str "many 05", .str "many  5", .str "both(tree)", .str "both(tree,near)"])) (.seq (.set (.v 2) (.cat (.var 2) (.lst [.op2 .add (.op2 .add (.op2 .mul (.str "both(") (.int 4)) (.str "tree")) (.op2 .mul (.str ", near)") (.int 4)), .str "both(tree, near, odd)", .str "(tree, near)"]))) (.seq (.set (.v 2) (.cat (.var 2) (.lst [.str "both (tree, near)", .str "Tree", .str "tree\n", .str "many -1", .op2 .add (.str "many ") (.op2 .mul (.str "1") (.int 4400)), .op2 .mul (.str "(") (.int 9000)]))) (.seq (.set (.v 2) (.cat (.var 2) (.lst [.op2 .add (.op2 .add (.op2 .mul (.str "both(") (.int 800)) (.str "tree")) (.op2 .mul (.str ", near)") (.int 800)), .op2 .mul (.str "both(") (.int 1900)]))) (.seq (.for_ (.v 3) .of [.cat (.var 2) (.lst [.non, .int 5, .bl true, .tup [.str "tree"], .lst [.str "tree"], .dct0 false, .int 0, .tup []])] (.ite (.op1 .isNN (.call g_law_told_k13 [.var 3])) (.ret (.bl false)) (.skip))) (.seq (.set (.v 4) (.tup [.str "either", .tup [.str "many", .int 4095], .tup [.str "both", .tup [.str "odd"], .tup [.str "ball"]]])) (.ret (.op2 .eq (.call g_law_told_k13 [.str "either(many 4095, both(odd, ball))"]) (.var 4)))))))))
def d_law_k13 : Def := ⟨1, 9, s_law_k13⟩
def tab (g : Nat) : Option Def := match g with
  | 0 => some d_law_cell_at
  | 1 => some d_law_pool
  | 2 => some d_law_take
  | 3 => some d_law_plain
  | 4 => some d_law_saying
  | 5 => some d_show_saying
  | 6 => some d_law_sign
  | 7 => some d_law_other
  | 8 => some d_split_place
  | 9 => some d_joined_in
  | 10 => some d_many_in
  | 11 => some d_saying_in
  | 12 => some d_read_saying
  | 13 => some d_law_told_k13
  | 14 => some d_law_number_k13
  | 15 => some d_law_read_k13
  | 16 => some d_law_k13
  | _ => none
instance instSmall : SmallT tab := ⟨fun g hg => by unfold tab; split <;> first | rfl | omega⟩
theorem cl_law_cell_at {n : Nat} {v0 v1 : Val} {P} (h : W.EX (call tab n) s_law_cell_at [some v0, some v1] (fun E => P (.non, .deep) (outs d_law_cell_at E)) fun x E => P x (outs d_law_cell_at E)) : CL (call tab (n + 1)) g_law_cell_at [v0, v1] P := CL_def (d := d_law_cell_at) rfl rfl h
theorem cl_law_pool {n : Nat} {v0 v1 : Val} {P} (h : W.EX (call tab n) s_law_pool [some v0, some v1, none, none] (fun E => P (.non, .deep) (outs d_law_pool E)) fun x E => P x (outs d_law_pool E)) : CL (call tab (n + 1)) g_law_pool [v0, v1] P := CL_def (d := d_law_pool) rfl rfl h
theorem cl_law_take {n : Nat} {v0 v1 : Val} {P} (h : W.EX (call tab n) s_law_take [some v0, some v1, none] (fun E => P (.non, .deep) (outs d_law_take E)) fun x E => P x (outs d_law_take E)) : CL (call tab (n + 1)) g_law_take [v0, v1] P := CL_def (d := d_law_take) rfl rfl h
theorem cl_law_plain {n : Nat} {v0 : Val} {P} (h : W.EX (call tab n) s_law_plain [some v0, none, none] (fun E => P (.non, .deep) (outs d_law_plain E)) fun x E => P x (outs d_law_plain E)) : CL (call tab (n + 1)) g_law_plain [v0] P := CL_def (d := d_law_plain) rfl rfl h
theorem cl_law_saying {n : Nat} {v0 v1 : Val} {P} (h : W.EX (call tab n) s_law_saying [some v0, some v1, none, none] (fun E => P (.non, .deep) (outs d_law_saying E)) fun x E => P x (outs d_law_saying E)) : CL (call tab (n + 1)) g_law_saying [v0, v1] P := CL_def (d := d_law_saying) rfl rfl h
theorem cl_show_saying {n : Nat} {v0 : Val} {P} (h : W.EX (call tab n) s_show_saying [some v0] (fun E => P (.non, .deep) (outs d_show_saying E)) fun x E => P x (outs d_show_saying E)) : CL (call tab (n + 1)) g_show_saying [v0] P := CL_def (d := d_show_saying) rfl rfl h
theorem cl_law_sign {n : Nat} {v0 : Val} {P} (h : W.EX (call tab n) s_law_sign [some v0, none] (fun E => P (.non, .deep) (outs d_law_sign E)) fun x E => P x (outs d_law_sign E)) : CL (call tab (n + 1)) g_law_sign [v0] P := CL_def (d := d_law_sign) rfl rfl h
theorem cl_law_other {n : Nat} {v0 v1 : Val} {P} (h : W.EX (call tab n) s_law_other [some v0, some v1, none, none, none] (fun E => P (.non, .deep) (outs d_law_other E)) fun x E => P x (outs d_law_other E)) : CL (call tab (n + 1)) g_law_other [v0, v1] P := CL_def (d := d_law_other) rfl rfl h
theorem cl_split_place {n : Nat} {v0 : Val} {P} (h : W.EX (call tab n) s_split_place [some v0, none, none, none] (fun E => P (.non, .deep) (outs d_split_place E)) fun x E => P x (outs d_split_place E)) : CL (call tab (n + 1)) g_split_place [v0] P := CL_def (d := d_split_place) rfl rfl h
theorem cl_joined_in {n : Nat} {v0 v1 : Val} {P} (h : W.EX (call tab n) s_joined_in [some v0, some v1, none, none, none, none, none, none] (fun E => P (.non, .deep) (outs d_joined_in E)) fun x E => P x (outs d_joined_in E)) : CL (call tab (n + 1)) g_joined_in [v0, v1] P := CL_def (d := d_joined_in) rfl rfl h
theorem cl_many_in {n : Nat} {v0 : Val} {P} (h : W.EX (call tab n) s_many_in [some v0, none] (fun E => P (.non, .deep) (outs d_many_in E)) fun x E => P x (outs d_many_in E)) : CL (call tab (n + 1)) g_many_in [v0] P := CL_def (d := d_many_in) rfl rfl h
theorem cl_saying_in {n : Nat} {v0 v1 : Val} {P} (h : W.EX (call tab n) s_saying_in [some v0, some v1] (fun E => P (.non, .deep) (outs d_saying_in E)) fun x E => P x (outs d_saying_in E)) : CL (call tab (n + 1)) g_saying_in [v0, v1] P := CL_def (d := d_saying_in) rfl rfl h
theorem cl_read_saying {n : Nat} {v0 : Val} {P} (h : W.EX (call tab n) s_read_saying [some v0, none] (fun E => P (.non, .deep) (outs d_read_saying E)) fun x E => P x (outs d_read_saying E)) : CL (call tab (n + 1)) g_read_saying [v0] P := CL_def (d := d_read_saying) rfl rfl h
theorem ce_read_saying {n : Nat} {v0 : Val} {y : Exn} (hx : y.1 < 16) (h : W.EXX (call tab n) s_read_saying [some v0, none] (fun _ => False) (fun _ _ => False) fun z _ => z = y) : CE (call tab (n + 1)) g_read_saying [v0] y := ce_def (d := d_read_saying) rfl rfl hx h
theorem cl_law_told_k13 {n : Nat} {v0 : Val} {P} (h : W.EX (call tab n) s_law_told_k13 [some v0, none, none, none] (fun E => P (.non, .deep) (outs d_law_told_k13 E)) fun x E => P x (outs d_law_told_k13 E)) : CL (call tab (n + 1)) g_law_told_k13 [v0] P := CL_def (d := d_law_told_k13) rfl rfl h
theorem cl_law_number_k13 {n : Nat} {v0 : Val} {P} (h : W.EX (call tab n) s_law_number_k13 [some v0, none] (fun E => P (.non, .deep) (outs d_law_number_k13 E)) fun x E => P x (outs d_law_number_k13 E)) : CL (call tab (n + 1)) g_law_number_k13 [v0] P := CL_def (d := d_law_number_k13) rfl rfl h
theorem cl_law_read_k13 {n : Nat} {v0 v1 : Val} {P} (h : W.EX (call tab n) s_law_read_k13 [some v0, some v1, none, none, none, none, none, none] (fun E => P (.non, .deep) (outs d_law_read_k13 E)) fun x E => P x (outs d_law_read_k13 E)) : CL (call tab (n + 1)) g_law_read_k13 [v0, v1] P := CL_def (d := d_law_read_k13) rfl rfl h
theorem cl_law_k13 {n : Nat} {v0 : Val} {P} (h : W.EX (call tab n) s_law_k13 [some v0, none, none, none, none, none, none, none, none] (fun E => P (.non, .deep) (outs d_law_k13 E)) fun x E => P x (outs d_law_k13 E)) : CL (call tab (n + 1)) g_law_k13 [v0] P := CL_def (d := d_law_k13) rfl rfl h
end BS

namespace L_besidesay_k13_texts_that_are_none
open PySem PySem.Spec PyProof.Rows L2 BS
/-! ### each def is what its syntax says -/
local macro_rules | `(tactic| trivial) => `(tactic| first | exact .inl rfl | exact .inr rfl | exact .inr (.inl rfl) | exact .inr (.inr rfl))
section
variable {P : Program} {w : World} {K : PySem.W.Frag} {mg : Str → Option Value} {base : Heap} {fdv : Nat → FuncData} {n : Nat}
theorem sc0 : FnScope ["_law_script", "_law_k"] ["_law_script", "_law_k"] (defScope s0) := ⟨rfl, rfl, rfl, by decide +kernel, rfl, by decide +kernel, by decide +kernel⟩
theorem b0 (T : Txt K mg ts fr ci cs fdv) : Binds K (fdv 0) ["_law_script", "_law_k"] [] := (T.fn 0 rfl).bindsN fun _ _ _ _ _ _ us hl => match us, hl with | [_, _], _ => rfl
theorem sc1 : FnScope ["_law_script", "_law_k", "_law_cell", "_law_seed"] ["_law_script", "_law_k"] (defScope s1) := ⟨rfl, rfl, rfl, by decide +kernel, rfl, by decide +kernel, by decide +kernel⟩
theorem b1 (T : Txt K mg ts fr ci cs fdv) : Binds K (fdv 1) ["_law_script", "_law_k"] [] := (T.fn 1 rfl).bindsN fun _ _ _ _ _ _ us hl => match us, hl with | [_, _], _ => rfl
theorem sc2 : FnScope ["_law_pool_here", "_law_many", "_law_found"] ["_law_pool_here", "_law_many"] (defScope s2) := ⟨rfl, rfl, rfl, by decide +kernel, rfl, by decide +kernel, by decide +kernel⟩
theorem b2 (T : Txt K mg ts fr ci cs fdv) : Binds K (fdv 2) ["_law_pool_here", "_law_many"] [] := (T.fn 2 rfl).bindsN fun _ _ _ _ _ _ us hl => match us, hl with | [_, _], _ => rfl
theorem sc3 : FnScope ["_law_pool_here", "_law_some", "_law_word"] ["_law_pool_here"] (defScope s3) := ⟨rfl, rfl, rfl, by decide +kernel, rfl, by decide +kernel, by decide +kernel⟩
theorem b3 (T : Txt K mg ts fr ci cs fdv) : Binds K (fdv 3) ["_law_pool_here"] [] := (T.fn 3 rfl).bindsN fun _ _ _ _ _ _ us hl => match us, hl with | [_], _ => rfl
theorem sc4 : FnScope ["_law_pool_here", "_law_depth", "_law_word", "_law_one"] ["_law_pool_here", "_law_depth"] (defScope s4) := ⟨rfl, rfl, rfl, by decide +kernel, rfl, by decide +kernel, by decide +kernel⟩
theorem b4 (T : Txt K mg ts fr ci cs fdv) : Binds K (fdv 4) ["_law_pool_here", "_law_depth"] [] := (T.fn 4 rfl).bindsN fun _ _ _ _ _ _ us hl => match us, hl with | [_, _], _ => rfl
theorem sc5 : FnScope ["saying"] ["saying"] (defScope s5) := ⟨rfl, rfl, rfl, by decide +kernel, rfl, by decide +kernel, by decide +kernel⟩
theorem b5 (T : Txt K mg ts fr ci cs fdv) : Binds K (fdv 5) ["saying"] [] := (T.fn 5 rfl).bindsN fun _ _ _ _ _ _ us hl => match us, hl with | [_], _ => rfl
theorem sc6 : FnScope ["_law_pool_here", "_law_some"] ["_law_pool_here"] (defScope s6) := ⟨rfl, rfl, rfl, by decide +kernel, rfl, by decide +kernel, by decide +kernel⟩
theorem b6 (T : Txt K mg ts fr ci cs fdv) : Binds K (fdv 6) ["_law_pool_here"] [] := (T.fn 6 rfl).bindsN fun _ _ _ _ _ _ us hl => match us, hl with | [_], _ => rfl
theorem sc7 : FnScope ["_law_text", "_law_pool_here", "_law_at", "_law_way", "_law_sign_here"] ["_law_text", "_law_pool_here"] (defScope s7) := ⟨rfl, rfl, rfl, by decide +kernel, rfl, by decide +kernel, by decide +kernel⟩
theorem b7 (T : Txt K mg ts fr ci cs fdv) : Binds K (fdv 7) ["_law_text", "_law_pool_here"] [] := (T.fn 7 rfl).bindsN fun _ _ _ _ _ _ us hl => match us, hl with | [_, _], _ => rfl
theorem sc8 : FnScope ["text", "depth", "at", "sign"] ["text"] (defScope s8) := ⟨rfl, rfl, rfl, by decide +kernel, rfl, by decide +kernel, by decide +kernel⟩
theorem b8 (T : Txt K mg ts fr ci cs fdv) : Binds K (fdv 8) ["text"] [] := (T.fn 8 rfl).bindsN fun _ _ _ _ _ _ us hl => match us, hl with | [_], _ => rfl
theorem sc9 : FnScope ["text", "depth", "rest", "at", "one", "other", "word", "bracket"] ["text", "depth"] (defScope s9) := ⟨rfl, rfl, rfl, by decide +kernel, rfl, by decide +kernel, by decide +kernel⟩
theorem b9 (T : Txt K mg ts fr ci cs fdv) : Binds K (fdv 9) ["text", "depth"] [] := (T.fn 9 rfl).bindsN fun _ _ _ _ _ _ us hl => match us, hl with | [_, _], _ => rfl
theorem sc10 : FnScope ["word", "sign"] ["word"] (defScope s10) := ⟨rfl, rfl, rfl, by decide +kernel, rfl, by decide +kernel, by decide +kernel⟩
theorem b10 (T : Txt K mg ts fr ci cs fdv) : Binds K (fdv 10) ["word"] [] := (T.fn 10 rfl).bindsN fun _ _ _ _ _ _ us hl => match us, hl with | [_], _ => rfl
theorem sc11 : FnScope ["text", "depth"] ["text", "depth"] (defScope s11) := ⟨rfl, rfl, rfl, by decide +kernel, rfl, by decide +kernel, by decide +kernel⟩
theorem b11 (T : Txt K mg ts fr ci cs fdv) : Binds K (fdv 11) ["text", "depth"] [] := (T.fn 11 rfl).bindsN fun _ _ _ _ _ _ us hl => match us, hl with | [_, _], _ => rfl
theorem sc12 : FnScope ["text", "found"] ["text"] (defScope s12) := ⟨rfl, rfl, rfl, by decide +kernel, rfl, by decide +kernel, by decide +kernel⟩
theorem b12 (T : Txt K mg ts fr ci cs fdv) : Binds K (fdv 12) ["text"] [] := (T.fn 12 rfl).bindsN fun _ _ _ _ _ _ us hl => match us, hl with | [_], _ => rfl
theorem sc13 : FnScope ["_law_text", "_law_kept", "_law_found", "e"] ["_law_text"] (defScope s13) := ⟨rfl, rfl, rfl, by decide +kernel, rfl, by decide +kernel, by decide +kernel⟩
theorem b13 (T : Txt K mg ts fr ci cs fdv) : Binds K (fdv 13) ["_law_text"] [] := (T.fn 13 rfl).bindsN fun _ _ _ _ _ _ us hl => match us, hl with | [_], _ => rfl
theorem sc14 : FnScope ["_law_word", "_law_sign_here"] ["_law_word"] (defScope s14) := ⟨rfl, rfl, rfl, by decide +kernel, rfl, by decide +kernel, by decide +kernel⟩
theorem b14 (T : Txt K mg ts fr ci cs fdv) : Binds K (fdv 14) ["_law_word"] [] := (T.fn 14 rfl).bindsN fun _ _ _ _ _ _ us hl => match us, hl with | [_], _ => rfl
theorem sc15 : FnScope ["_law_text", "_law_depth", "_law_word", "_law_begun", "_law_inner", "_law_at", "_law_one", "_law_other_here"] ["_law_text", "_law_depth"] (defScope s15) := ⟨rfl, rfl, rfl, by decide +kernel, rfl, by decide +kernel, by decide +kernel⟩
theorem b15 (T : Txt K mg ts fr ci cs fdv) : Binds K (fdv 15) ["_law_text", "_law_depth"] [] := (T.fn 15 rfl).bindsN fun _ _ _ _ _ _ us hl => match us, hl with | [_, _], _ => rfl
theorem sc16 : FnScope ["_law_script", "_law_k", "_law_texts", "_law_thing", "_law_due", "_law_pool_here", "_law_saying_here", "_law_text", "_law_other_here"] ["_law_script"] (defScope s16) := ⟨rfl, rfl, rfl, by decide +kernel, rfl, by decide +kernel, by decide +kernel⟩
theorem b16 (T : Txt K mg ts fr ci cs fdv) : Binds K (fdv 16) ["_law_script"] [] := (T.fn 16 rfl).bindsN fun _ _ _ _ _ _ us hl => match us, hl with | [_], _ => rfl
theorem ball (T : Txt K mg ts fr ci cs fdv) {x : Str} {st : Stmt} {ps : List Str} (i : Nat) (h : ts[i]? = some (x, st, ps)) : Binds K (fdv i) ps [] := by
  match i, h with
  | 0, h => cases h; exact b0 T
  | 1, h => cases h; exact b1 T
  | 2, h => cases h; exact b2 T
  | 3, h => cases h; exact b3 T
  | 4, h => cases h; exact b4 T
  | 5, h => cases h; exact b5 T
  | 6, h => cases h; exact b6 T
  | 7, h => cases h; exact b7 T
  | 8, h => cases h; exact b8 T
  | 9, h => cases h; exact b9 T
  | 10, h => cases h; exact b10 T
  | 11, h => cases h; exact b11 T
  | 12, h => cases h; exact b12 T
  | 13, h => cases h; exact b13 T
  | 14, h => cases h; exact b14 T
  | 15, h => cases h; exact b15 T
  | 16, h => cases h; exact b16 T
  | k + 17, h => cases h
theorem ok0 (T : Txt K mg ts fr ci cs fdv) (A : Oks P w K mg base tab ts fdv n) (TX : TxX K mg cl tps) (AX : OksX P w K mg base tab ts mrs fdv n) : FnOk P w K mg base CX0 (n + 1) (He.ga K "_law_cell_at") (fdv 0) ["_law_script", "_law_k"] (spV K (FAof K ts) (call tab (n + 1) 0)) := by
  refine def_ok (Φ := call tab n) (d := d_law_cell_at) (T.fn 0 rfl) sc0 rfl rfl fun cdv A0 outer s H E hr => ?_
  have AL := alls_of T A (ball T)
  have hu1 := hu_of hr
  have hu64 := hu64_of hr
  have hu65 := hu65_of hr
  exact (ss_cons (ss_if (sp_lt (sx_var (i := 1) rfl (by trivial)) (sx_len (by rfl) (T.free 0 rfl) (sx_var (i := 0) rfl (by trivial)))) (ss_one (ss_ret (sx_ix hu1 (sx_var (i := 0) rfl (by trivial)) (sx_var (i := 1) rfl (by trivial))))) ss_nil)
    (ss_one (ss_ret sx_int)))
theorem ok1 (T : Txt K mg ts fr ci cs fdv) (A : Oks P w K mg base tab ts fdv n) (TX : TxX K mg cl tps) (AX : OksX P w K mg base tab ts mrs fdv n) : FnOk P w K mg base CX0 (n + 1) (He.ga K "_law_pool") (fdv 1) ["_law_script", "_law_k"] (spV K (FAof K ts) (call tab (n + 1) 1)) := by
  refine def_ok (Φ := call tab n) (d := d_law_pool) (T.fn 1 rfl) sc1 rfl rfl fun cdv A0 outer s H E hr => ?_
  have AL := alls_of T A (ball T)
  have hu1 := hu_of hr
  have hu64 := hu64_of hr
  have hu65 := hu65_of hr
  exact (ss_cons (ss_set sc1.nd rfl (by trivial) (by trivial) (sx_call (A 0 rfl) hr (by rfl) (T.glo 0 rfl) (T.fn 0 rfl).kp (b0 T) (sg_cons (sx_var (i := 0) rfl (by trivial)) (sg_cons (sx_var (i := 1) rfl (by trivial)) sg_nil))))
    (ss_cons (ss_set sc1.nd rfl (by trivial) (by trivial) (sx_mod (sx_mul (sx_add (sx_add (sx_mod (sx_var (i := 2) rfl (by trivial)) sx_int) (sx_mul (sx_mul sx_int (sx_var (i := 1) rfl (by trivial))) (sx_var (i := 1) rfl (by trivial)))) sx_int) sx_int) sx_int))
    (ss_cons (ss_if (sp_lt (sx_var (i := 2) rfl (by trivial)) (sx_pow sx_int sx_int)) (ss_one (ss_set sc1.nd rfl (by trivial) (by trivial) sx_int)) ss_nil)
    (ss_one (ss_ret (sx_lst (sa_cons (sx_var (i := 2) rfl (by trivial)) (sa_cons (sx_mod (sx_mul (sx_var (i := 3) rfl (by trivial)) (sx_var (i := 3) rfl (by trivial))) sx_int) sa_nil))))))))
theorem ok2 (T : Txt K mg ts fr ci cs fdv) (A : Oks P w K mg base tab ts fdv n) (TX : TxX K mg cl tps) (AX : OksX P w K mg base tab ts mrs fdv n) : FnOk P w K mg base CX0 (n + 1) (He.ga K "_law_take") (fdv 2) ["_law_pool_here", "_law_many"] (spV K (FAof K ts) (call tab (n + 1) 2)) := by
  refine def_ok (Φ := call tab n) (d := d_law_take) (T.fn 2 rfl) sc2 rfl rfl fun cdv A0 outer s H E hr => ?_
  have AL := alls_of T A (ball T)
  have hu1 := hu_of hr
  have hu64 := hu64_of hr
  have hu65 := hu65_of hr
  exact (ss_cons (ss_if (sp_gt (sx_ix hu1 (sx_var (i := 0) rfl (by trivial)) sx_int) sx_int) (ss_cons (ss_set sc2.nd rfl (by trivial) (by trivial) (sx_mod (sx_ix hu1 (sx_var (i := 0) rfl (by trivial)) sx_int) (sx_var (i := 1) rfl (by trivial))))
    (ss_cons (ss_setIx rfl (by trivial) (sx_fdiv (sx_ix hu1 (sx_var (i := 0) rfl (by trivial)) sx_int) (sx_var (i := 1) rfl (by trivial))) sx_int hu1)
    (ss_one (ss_ret (sx_var (i := 2) rfl (by trivial)))))) ss_nil)
    (ss_cons (ss_setIx rfl (by trivial) (sx_mod (sx_add (sx_mul (sx_ix hu1 (sx_var (i := 0) rfl (by trivial)) sx_int) sx_int) sx_int) sx_int) sx_int hu1)
    (ss_one (ss_ret (sx_mod (sx_fdiv (sx_mod (sx_mul (sx_ix hu1 (sx_var (i := 0) rfl (by trivial)) sx_int) (sx_ix hu1 (sx_var (i := 0) rfl (by trivial)) sx_int)) sx_int) sx_int) (sx_var (i := 1) rfl (by trivial)))))))
theorem ok3 (T : Txt K mg ts fr ci cs fdv) (A : Oks P w K mg base tab ts fdv n) (TX : TxX K mg cl tps) (AX : OksX P w K mg base tab ts mrs fdv n) : FnOk P w K mg base CX0 (n + 1) (He.ga K "_law_plain") (fdv 3) ["_law_pool_here"] (spV K (FAof K ts) (call tab (n + 1) 3)) := by
  refine def_ok (Φ := call tab n) (d := d_law_plain) (T.fn 3 rfl) sc3 rfl rfl fun cdv A0 outer s H E hr => ?_
  have AL := alls_of T A (ball T)
  have hu1 := hu_of hr
  have hu64 := hu64_of hr
  have hu65 := hu65_of hr
  exact (ss_cons (ss_set sc3.nd rfl (by trivial) (by trivial) (sx_lst (sa_cons (sx_str (by decide +kernel) (by decide +kernel)) (sa_cons (sx_str (by decide +kernel) (by decide +kernel)) (sa_cons (sx_str (by decide +kernel) (by decide +kernel)) (sa_cons (sx_str (by decide +kernel) (by decide +kernel)) (sa_cons (sx_str (by decide +kernel) (by decide +kernel)) (sa_cons (sx_str (by decide +kernel) (by decide +kernel)) (sa_cons (sx_str (by decide +kernel) (by decide +kernel)) (sa_cons (sx_str (by decide +kernel) (by decide +kernel)) (sa_cons (sx_str (by decide +kernel) (by decide +kernel)) (sa_cons (sx_str (by decide +kernel) (by decide +kernel)) sa_nil))))))))))))
    (ss_cons (ss_set sc3.nd rfl (by trivial) (by trivial) (sx_ix hu1 (sx_var (i := 1) rfl (by trivial)) (sx_call (A 2 rfl) hr (by rfl) (T.glo 2 rfl) (T.fn 2 rfl).kp (b2 T) (sg_io (i := 0) rfl (by trivial) (sg_cons sx_int sg_nil)))))
    (ss_cons (ss_if (sp_eq hu64 (sx_var (i := 2) rfl (by trivial)) (sx_str (by decide +kernel) (by decide +kernel))) (ss_one (ss_ret (sx_tup (sa_cons (sx_var (i := 2) rfl (by trivial)) (sa_cons (sx_add sx_int (sx_call (A 2 rfl) hr (by rfl) (T.glo 2 rfl) (T.fn 2 rfl).kp (b2 T) (sg_io (i := 0) rfl (by trivial) (sg_cons (sx_ix hu1 (sx_lst (sa_cons sx_int (sa_cons sx_int (sa_cons sx_int sa_nil)))) (sx_call (A 2 rfl) hr (by rfl) (T.glo 2 rfl) (T.fn 2 rfl).kp (b2 T) (sg_io (i := 0) rfl (by trivial) (sg_cons sx_int sg_nil)))) sg_nil)))) sa_nil))))) ss_nil)
    (ss_one (ss_ret (sx_tup (sa_cons (sx_var (i := 2) rfl (by trivial)) sa_nil)))))))
theorem ok4 (T : Txt K mg ts fr ci cs fdv) (A : Oks P w K mg base tab ts fdv n) (TX : TxX K mg cl tps) (AX : OksX P w K mg base tab ts mrs fdv n) : FnOk P w K mg base CX0 (n + 1) (He.ga K "_law_saying") (fdv 4) ["_law_pool_here", "_law_depth"] (spV K (FAof K ts) (call tab (n + 1) 4)) := by
  refine def_ok (Φ := call tab n) (d := d_law_saying) (T.fn 4 rfl) sc4 rfl rfl fun cdv A0 outer s H E hr => ?_
  have AL := alls_of T A (ball T)
  have hu1 := hu_of hr
  have hu64 := hu64_of hr
  have hu65 := hu65_of hr
  exact (ss_cons (ss_if (PW.pt (sw_or (sp_eq hu64 (sx_var (i := 1) rfl (by trivial)) sx_int) (sw_one (sp_eq hu64 (sx_call (A 2 rfl) hr (by rfl) (T.glo 2 rfl) (T.fn 2 rfl).kp (b2 T) (sg_io (i := 0) rfl (by trivial) (sg_cons sx_int sg_nil))) sx_int)))) (ss_one (ss_ret (sx_call (A 3 rfl) hr (by rfl) (T.glo 3 rfl) (T.fn 3 rfl).kp (b3 T) (sg_io (i := 0) rfl (by trivial) sg_nil)))) ss_nil)
    (ss_cons (ss_set sc4.nd rfl (by trivial) (by trivial) (sx_ix hu1 (sx_lst (sa_cons (sx_str (by decide +kernel) (by decide +kernel)) (sa_cons (sx_str (by decide +kernel) (by decide +kernel)) sa_nil))) (sx_call (A 2 rfl) hr (by rfl) (T.glo 2 rfl) (T.fn 2 rfl).kp (b2 T) (sg_io (i := 0) rfl (by trivial) (sg_cons sx_int sg_nil)))))
    (ss_cons (ss_set sc4.nd rfl (by trivial) (by trivial) (sx_call (A 4 rfl) hr (by rfl) (T.glo 4 rfl) (T.fn 4 rfl).kp (b4 T) (sg_io (i := 0) rfl (by trivial) (sg_cons (sx_sub (sx_var (i := 1) rfl (by trivial)) sx_int) sg_nil))))
    (ss_one (ss_ret (sx_tup (sa_cons (sx_var (i := 2) rfl (by trivial)) (sa_cons (sx_var (i := 3) rfl (by trivial)) (sa_cons (sx_call (A 4 rfl) hr (by rfl) (T.glo 4 rfl) (T.fn 4 rfl).kp (b4 T) (sg_io (i := 0) rfl (by trivial) (sg_cons (sx_sub (sx_var (i := 1) rfl (by trivial)) sx_int) sg_nil))) sa_nil)))))))))
theorem ok5 (T : Txt K mg ts fr ci cs fdv) (A : Oks P w K mg base tab ts fdv n) (TX : TxX K mg cl tps) (AX : OksX P w K mg base tab ts mrs fdv n) : FnOk P w K mg base CX0 (n + 1) (He.ga K "show_saying") (fdv 5) ["saying"] (spV K (FAof K ts) (call tab (n + 1) 5)) := by
  refine def_ok (Φ := call tab n) (d := d_show_saying) (T.fn 5 rfl) sc5 rfl rfl fun cdv A0 outer s H E hr => ?_
  have AL := alls_of T A (ball T)
  have hu1 := hu_of hr
  have hu64 := hu64_of hr
  have hu65 := hu65_of hr
  exact (ss_cons (ss_if (sp_inG (by rfl) (TX.tup 0 rfl).1 ((TX.tup 0 rfl).2 (by decide)) (sx_ix hu1 (sx_var (i := 0) rfl (by trivial)) sx_int)) (ss_one (ss_ret (sx_add (sx_add (sx_add (sx_add (sx_add (sx_ix hu1 (sx_var (i := 0) rfl (by trivial)) sx_int) (sx_str (by decide +kernel) (by decide +kernel))) (sx_call (A 5 rfl) hr (by rfl) (T.glo 5 rfl) (T.fn 5 rfl).kp (b5 T) (sg_cons (sx_ix hu1 (sx_var (i := 0) rfl (by trivial)) sx_int) sg_nil))) (sx_str (by decide +kernel) (by decide +kernel))) (sx_call (A 5 rfl) hr (by rfl) (T.glo 5 rfl) (T.fn 5 rfl).kp (b5 T) (sg_cons (sx_ix hu1 (sx_var (i := 0) rfl (by trivial)) sx_int) sg_nil))) (sx_str (by decide +kernel) (by decide +kernel))))) ss_nil)
    (ss_cons (ss_if (sp_eq hu64 (sx_ix hu1 (sx_var (i := 0) rfl (by trivial)) sx_int) (sx_str (by decide +kernel) (by decide +kernel))) (ss_one (ss_ret (sx_add (sx_str (by decide +kernel) (by decide +kernel)) (sx_str1 (by rfl) (T.free 1 rfl) (sx_ix hu1 (sx_var (i := 0) rfl (by trivial)) sx_int))))) ss_nil)
    (ss_one (ss_ret (sx_ix hu1 (sx_var (i := 0) rfl (by trivial)) sx_int)))))
theorem ok6 (T : Txt K mg ts fr ci cs fdv) (A : Oks P w K mg base tab ts fdv n) (TX : TxX K mg cl tps) (AX : OksX P w K mg base tab ts mrs fdv n) : FnOk P w K mg base CX0 (n + 1) (He.ga K "_law_sign") (fdv 6) ["_law_pool_here"] (spV K (FAof K ts) (call tab (n + 1) 6)) := by
  refine def_ok (Φ := call tab n) (d := d_law_sign) (T.fn 6 rfl) sc6 rfl rfl fun cdv A0 outer s H E hr => ?_
  have AL := alls_of T A (ball T)
  have hu1 := hu_of hr
  have hu64 := hu64_of hr
  have hu65 := hu65_of hr
  exact (ss_cons (ss_set sc6.nd rfl (by trivial) (by trivial) (sx_str (by decide +kernel) (by decide +kernel)))
    (ss_cons (ss_set sc6.nd rfl (by trivial) (by trivial) (sx_add (sx_var (i := 1) rfl (by trivial)) (sx_str (by decide +kernel) (by decide +kernel))))
    (ss_one (ss_ret (sx_ix hu1 (sx_var (i := 1) rfl (by trivial)) (sx_call (A 2 rfl) hr (by rfl) (T.glo 2 rfl) (T.fn 2 rfl).kp (b2 T) (sg_io (i := 0) rfl (by trivial) (sg_cons (sx_len (by rfl) (T.free 0 rfl) (sx_var (i := 1) rfl (by trivial))) sg_nil))))))))
theorem ok7 (T : Txt K mg ts fr ci cs fdv) (A : Oks P w K mg base tab ts fdv n) (TX : TxX K mg cl tps) (AX : OksX P w K mg base tab ts mrs fdv n) : FnOk P w K mg base CX0 (n + 1) (He.ga K "_law_other") (fdv 7) ["_law_text", "_law_pool_here"] (spV K (FAof K ts) (call tab (n + 1) 7)) := by
  refine def_ok (Φ := call tab n) (d := d_law_other) (T.fn 7 rfl) sc7 rfl rfl fun cdv A0 outer s H E hr => ?_
  have AL := alls_of T A (ball T)
  have hu1 := hu_of hr
  have hu64 := hu64_of hr
  have hu65 := hu65_of hr
  exact (ss_cons (ss_set sc7.nd rfl (by trivial) (by trivial) (sx_call (A 2 rfl) hr (by rfl) (T.glo 2 rfl) (T.fn 2 rfl).kp (b2 T) (sg_io (i := 1) rfl (by trivial) (sg_cons (sx_add (sx_len (by rfl) (T.free 0 rfl) (sx_var (i := 0) rfl (by trivial))) sx_int) sg_nil))))
    (ss_cons (ss_set sc7.nd rfl (by trivial) (by trivial) (sx_call (A 2 rfl) hr (by rfl) (T.glo 2 rfl) (T.fn 2 rfl).kp (b2 T) (sg_io (i := 1) rfl (by trivial) (sg_cons sx_int sg_nil))))
    (ss_cons (ss_set sc7.nd rfl (by trivial) (by trivial) (sx_ix hu1 (sx_lst (sa_cons (sx_call (A 6 rfl) hr (by rfl) (T.glo 6 rfl) (T.fn 6 rfl).kp (b6 T) (sg_io (i := 1) rfl (by trivial) sg_nil)) (sa_cons (sx_ix hu1 (sx_str (by decide +kernel) (by decide +kernel)) (sx_call (A 2 rfl) hr (by rfl) (T.glo 2 rfl) (T.fn 2 rfl).kp (b2 T) (sg_io (i := 1) rfl (by trivial) (sg_cons sx_int sg_nil)))) sa_nil))) (sx_call (A 2 rfl) hr (by rfl) (T.glo 2 rfl) (T.fn 2 rfl).kp (b2 T) (sg_io (i := 1) rfl (by trivial) (sg_cons sx_int sg_nil)))))
    (ss_cons (ss_if (sp_eq hu64 (sx_var (i := 3) rfl (by trivial)) sx_int) (ss_one (ss_ret (sx_add (sx_add (sx_sl (sx_var (i := 0) rfl (by trivial)) so_none (so_some (sx_var (i := 2) rfl (by trivial)))) (sx_var (i := 4) rfl (by trivial))) (sx_sl (sx_var (i := 0) rfl (by trivial)) (so_some (sx_var (i := 2) rfl (by trivial))) so_none)))) ss_nil)
    (ss_one (ss_ret (sx_add (sx_add (sx_sl (sx_var (i := 0) rfl (by trivial)) so_none (so_some (sx_var (i := 2) rfl (by trivial)))) (sx_mul (sx_var (i := 4) rfl (by trivial)) (sx_int1 (by rfl) (T.free 2 rfl) (sx_eq hu64 (sx_var (i := 3) rfl (by trivial)) sx_int)))) (sx_sl (sx_var (i := 0) rfl (by trivial)) (so_some (sx_add (sx_var (i := 2) rfl (by trivial)) sx_int)) so_none))))))))
theorem ok8 (T : Txt K mg ts fr ci cs fdv) (A : Oks P w K mg base tab ts fdv n) (TX : TxX K mg cl tps) (AX : OksX P w K mg base tab ts mrs fdv n) : FnOk P w K mg base CX0 (n + 1) (He.ga K "split_place") (fdv 8) ["text"] (spV K (FAof K ts) (call tab (n + 1) 8)) := by
  refine def_ok (Φ := call tab n) (d := d_split_place) (T.fn 8 rfl) sc8 rfl rfl fun cdv A0 outer s H E hr => ?_
  have AL := alls_of T A (ball T)
  have hu1 := hu_of hr
  have hu64 := hu64_of hr
  have hu65 := hu65_of hr
  exact (ss_cons (ss_set sc8.nd rfl (by trivial) (by trivial) sx_int)
    (ss_cons (ss_enumS rfl (T.free 3 rfl) (sx_var (i := 0) rfl (by trivial)) (pg_t rfl (pgs_v (i := 2) sc8.nd rfl (by trivial) (by trivial) (pgs_v (i := 3) sc8.nd rfl (by trivial) (by trivial) pgs_n))) (ss_one (ss_if (sp_eq hu64 (sx_var (i := 3) rfl (by trivial)) (sx_str (by decide +kernel) (by decide +kernel))) (ss_one (ss_set sc8.nd rfl (by trivial) (by trivial) (sx_add (sx_var (i := 1) rfl (by trivial)) sx_int))) (ss_one (ss_if (sp_eq hu64 (sx_var (i := 3) rfl (by trivial)) (sx_str (by decide +kernel) (by decide +kernel))) (ss_one (ss_set sc8.nd rfl (by trivial) (by trivial) (sx_sub (sx_var (i := 1) rfl (by trivial)) sx_int))) (ss_one (ss_if (PW.pt (sw_and (sp_eq hu64 (sx_var (i := 3) rfl (by trivial)) (sx_str (by decide +kernel) (by decide +kernel))) (sw_one (sp_eq hu64 (sx_var (i := 1) rfl (by trivial)) sx_int)))) (ss_one (ss_ret (sx_var (i := 2) rfl (by trivial)))) ss_nil)))))))
    (ss_one (ss_ret sx_non))))
theorem ok9 (T : Txt K mg ts fr ci cs fdv) (A : Oks P w K mg base tab ts fdv n) (TX : TxX K mg cl tps) (AX : OksX P w K mg base tab ts mrs fdv n) : FnOk P w K mg base CX0 (n + 1) (He.ga K "joined_in") (fdv 9) ["text", "depth"] (spV K (FAof K ts) (call tab (n + 1) 9)) := by
  refine def_ok (Φ := call tab n) (d := d_joined_in) (T.fn 9 rfl) sc9 rfl rfl fun cdv A0 outer s H E hr => ?_
  have AL := alls_of T A (ball T)
  have hu1 := hu_of hr
  have hu64 := hu64_of hr
  have hu65 := hu65_of hr
  exact (ss_cons (ss_setT (sx_part (sx_var (i := 0) rfl (by trivial))) (pg_t rfl (pgs_v (i := 6) sc9.nd rfl (by trivial) (by trivial) (pgs_v (i := 7) sc9.nd rfl (by trivial) (by trivial) (pgs_v (i := 2) sc9.nd rfl (by trivial) (by trivial) pgs_n)))))
    (ss_cons (ss_if (PW.pt (sw_or (sp_eq hu64 (sx_var (i := 7) rfl (by trivial)) (sx_str (by decide +kernel) (by decide +kernel))) (sw_or (sp_ninG (by rfl) (TX.tup 0 rfl).1 ((TX.tup 0 rfl).2 (by decide)) (sx_var (i := 6) rfl (by trivial))) (sw_or (sp_eq hu64 (sx_var (i := 1) rfl (by trivial)) sx_int) (sw_one (sp_ne hu64 (sx_sl (sx_var (i := 2) rfl (by trivial)) (so_some (sx_neg sx_int)) so_none) (sx_str (by decide +kernel) (by decide +kernel)))))))) (ss_one (ss_ret sx_non)) ss_nil)
    (ss_cons (ss_set sc9.nd rfl (by trivial) (by trivial) (sx_sl (sx_var (i := 2) rfl (by trivial)) so_none (so_some (sx_neg sx_int))))
    (ss_cons (ss_set sc9.nd rfl (by trivial) (by trivial) (sx_call (A 8 rfl) hr (by rfl) (T.glo 8 rfl) (T.fn 8 rfl).kp (b8 T) (sg_cons (sx_var (i := 2) rfl (by trivial)) sg_nil)))
    (ss_cons (ss_if (PW.pt (sw_or (sp_isN (sx_var (i := 3) rfl (by trivial))) (sw_one (sp_ne hu64 (sx_sl (sx_var (i := 2) rfl (by trivial)) (so_some (sx_var (i := 3) rfl (by trivial))) (so_some (sx_add (sx_var (i := 3) rfl (by trivial)) sx_int))) (sx_str (by decide +kernel) (by decide +kernel)))))) (ss_one (ss_ret sx_non)) ss_nil)
    (ss_cons (ss_set sc9.nd rfl (by trivial) (by trivial) (sx_call (A 11 rfl) hr (by rfl) (T.glo 11 rfl) (T.fn 11 rfl).kp (b11 T) (sg_cons (sx_sl (sx_var (i := 2) rfl (by trivial)) so_none (so_some (sx_var (i := 3) rfl (by trivial)))) (sg_cons (sx_sub (sx_var (i := 1) rfl (by trivial)) sx_int) sg_nil))))
    (ss_cons (ss_set sc9.nd rfl (by trivial) (by trivial) (sx_call (A 11 rfl) hr (by rfl) (T.glo 11 rfl) (T.fn 11 rfl).kp (b11 T) (sg_cons (sx_sl (sx_var (i := 2) rfl (by trivial)) (so_some (sx_add (sx_var (i := 3) rfl (by trivial)) sx_int)) so_none) (sg_cons (sx_sub (sx_var (i := 1) rfl (by trivial)) sx_int) sg_nil))))
    (ss_cons (ss_if (PW.pt (sw_or (sp_isN (sx_var (i := 4) rfl (by trivial))) (sw_one (sp_isN (sx_var (i := 5) rfl (by trivial)))))) (ss_one (ss_ret sx_non)) ss_nil)
    (ss_one (ss_ret (sx_tup (sa_cons (sx_var (i := 6) rfl (by trivial)) (sa_cons (sx_var (i := 4) rfl (by trivial)) (sa_cons (sx_var (i := 5) rfl (by trivial)) sa_nil))))))))))))))
theorem ok10 (T : Txt K mg ts fr ci cs fdv) (A : Oks P w K mg base tab ts fdv n) (TX : TxX K mg cl tps) (AX : OksX P w K mg base tab ts mrs fdv n) : FnOk P w K mg base CX0 (n + 1) (He.ga K "many_in") (fdv 10) ["word"] (spV K (FAof K ts) (call tab (n + 1) 10)) := by
  refine def_ok (Φ := call tab n) (d := d_many_in) (T.fn 10 rfl) sc10 rfl rfl fun cdv A0 outer s H E hr => ?_
  have AL := alls_of T A (ball T)
  have hu1 := hu_of hr
  have hu64 := hu64_of hr
  have hu65 := hu65_of hr
  exact (ss_cons (ss_if (PW.pt (sw_or (sp_not (sp_chlele sx_int (sx_len (by rfl) (T.free 0 rfl) (sx_var (i := 0) rfl (by trivial))) (sx_gint (by rfl) (T.int 0 rfl)))) (sw_one (sp_eq hu64 (sx_ix hu1 (sx_var (i := 0) rfl (by trivial)) sx_int) (sx_str (by decide +kernel) (by decide +kernel)))))) (ss_one (ss_ret sx_non)) ss_nil)
    (ss_cons (ss_forN (i := 0) rfl (by trivial) (pg_v (i := 1) sc10.nd rfl (by trivial) (by trivial)) (ss_one (ss_if (sp_nin hu65 (sx_var (i := 1) rfl (by trivial)) (sx_gstr (by rfl) (T.str 0 rfl))) (ss_one (ss_ret sx_non)) ss_nil)))
    (ss_cons (ss_if (sp_gt (sx_int1 (by rfl) (T.free 2 rfl) (sx_var (i := 0) rfl (by trivial))) (sx_gint (by rfl) (T.int 1 rfl))) (ss_one (ss_ret sx_non)) ss_nil)
    (ss_one (ss_ret (sx_tup (sa_cons (sx_str (by decide +kernel) (by decide +kernel)) (sa_cons (sx_int1 (by rfl) (T.free 2 rfl) (sx_var (i := 0) rfl (by trivial))) sa_nil))))))))
theorem ok11 (T : Txt K mg ts fr ci cs fdv) (A : Oks P w K mg base tab ts fdv n) (TX : TxX K mg cl tps) (AX : OksX P w K mg base tab ts mrs fdv n) : FnOk P w K mg base CX0 (n + 1) (He.ga K "saying_in") (fdv 11) ["text", "depth"] (spV K (FAof K ts) (call tab (n + 1) 11)) := by
  refine def_ok (Φ := call tab n) (d := d_saying_in) (T.fn 11 rfl) sc11 rfl rfl fun cdv A0 outer s H E hr => ?_
  have AL := alls_of T A (ball T)
  have hu1 := hu_of hr
  have hu64 := hu64_of hr
  have hu65 := hu65_of hr
  exact (ss_cons (ss_if (sp_inG (by rfl) (TX.tup 1 rfl).1 ((TX.tup 1 rfl).2 (by decide)) (sx_var (i := 0) rfl (by trivial))) (ss_one (ss_ret (sx_tup (sa_cons (sx_var (i := 0) rfl (by trivial)) sa_nil)))) ss_nil)
    (ss_cons (ss_if (sp_val (sx_starts (sx_var (i := 0) rfl (by trivial)))) (ss_one (ss_ret (sx_call (A 10 rfl) hr (by rfl) (T.glo 10 rfl) (T.fn 10 rfl).kp (b10 T) (sg_cons (sx_sl (sx_var (i := 0) rfl (by trivial)) (so_some sx_int) so_none) sg_nil)))) ss_nil)
    (ss_one (ss_ret (sx_call (A 9 rfl) hr (by rfl) (T.glo 9 rfl) (T.fn 9 rfl).kp (b9 T) (sg_cons (sx_var (i := 0) rfl (by trivial)) (sg_cons (sx_var (i := 1) rfl (by trivial)) sg_nil)))))))
theorem ok12 (T : Txt K mg ts fr ci cs fdv) (A : Oks P w K mg base tab ts fdv n) (TX : TxX K mg cl tps) (AX : OksX P w K mg base tab ts mrs fdv n) : FnOk P w K mg base CX0 (n + 1) (He.ga K "read_saying") (fdv 12) ["text"] (spV K (FAof K ts) (call tab (n + 1) 12)) := by
  refine def_ok (Φ := call tab n) (d := d_read_saying) (T.fn 12 rfl) sc12 rfl rfl fun cdv A0 outer s H E hr => ?_
  have AL := alls_of T A (ball T)
  have hu1 := hu_of hr
  have hu64 := hu64_of hr
  have hu65 := hu65_of hr
  exact (ss_cons (ss_if (sp_not (sp_val (sx_isi .str boot_str' (by rfl) (T.free 4 rfl) (by rfl) (T.free 1 rfl) (sx_var (i := 0) rfl (by trivial))))) (ss_one (ss_rs (c := 3) rfl (by rfl) (TX.at_ (c := 3) true (by decide)) (TX.xc (c := 3) true (by decide)) (TX.exc (c := 3) (by decide)) (by first | exact tk_none | exact L2.takes_of rfl rfl rfl rfl | assumption))) ss_nil)
    (ss_cons (ss_set sc12.nd rfl (by trivial) (by trivial) (sx_call (A 11 rfl) hr (by rfl) (T.glo 11 rfl) (T.fn 11 rfl).kp (b11 T) (sg_cons (sx_var (i := 0) rfl (by trivial)) (sg_cons (sx_gint (by rfl) (T.int 2 rfl)) sg_nil))))
    (ss_cons (ss_if (sp_isN (sx_var (i := 1) rfl (by trivial))) (ss_one (ss_rs (c := 3) rfl (by rfl) (TX.at_ (c := 3) true (by decide)) (TX.xc (c := 3) true (by decide)) (TX.exc (c := 3) (by decide)) (by first | exact tk_none | exact L2.takes_of rfl rfl rfl rfl | assumption))) ss_nil)
    (ss_one (ss_ret (sx_var (i := 1) rfl (by trivial)))))))
theorem ok13 (T : Txt K mg ts fr ci cs fdv) (A : Oks P w K mg base tab ts fdv n) (TX : TxX K mg cl tps) (AX : OksX P w K mg base tab ts mrs fdv n) : FnOk P w K mg base CX0 (n + 1) (He.ga K "_law_told") (fdv 13) ["_law_text"] (spV K (FAof K ts) (call tab (n + 1) 13)) := by
  refine def_ok (Φ := call tab n) (d := d_law_told_k13) (T.fn 13 rfl) sc13 rfl rfl fun cdv A0 outer s H E hr => ?_
  have AL := alls_of T A (ball T)
  have hu1 := hu_of hr
  have hu64 := hu64_of hr
  have hu65 := hu65_of hr
  exact (ss_cons (ss_set sc13.nd rfl (by trivial) (by trivial) sx_non)
    (ss_cons (ss_set sc13.nd rfl (by trivial) (by trivial) sx_non)
    (ss_cons (ss_try (cc := 0) (j := 3) (i := 1) rfl rfl rfl sc13.nd rfl (by rfl) (by trivial) rfl (by trivial) (by trivial) (by decide) (of_decide_eq_true rfl) (of_decide_eq_true rfl) ⟨by rfl, by decide, .inl (TX.at_ (c := 0) true (by decide))⟩ (fun k x _ => x.bm) (fun W pn xe tk hp => (ss_one (ss_sc sc13.nd rfl (by trivial) (by trivial) (A 12 rfl) (AX 12 rfl (by decide)) (by first | exact tk_none | exact L2.takes_of rfl rfl rfl rfl | assumption) hr (by rfl) (T.glo 12 rfl) (T.fn 12 rfl).kp (b12 T) (sg_cons (sx_var (i := 0) rfl (by trivial)) sg_nil)))))
    (ss_cons (ss_if (sp_isN (sx_var (i := 1) rfl (by trivial))) (ss_one (ss_ret (sx_var (i := 2) rfl (by trivial)))) ss_nil)
    (ss_cons (ss_if (PW.pt (sw_or (sp_not (sp_val (sx_isC FA0 (TX.own true (by decide)) (pe_own (x := "NoText") 3 rfl (by rfl) (TX.at_ (c := 3) true (by decide))) rfl (T.free 4 rfl) (sx_var (i := 1) rfl (by trivial))))) (sw_one (sp_not (sp_val (sx_isC FA0 clsVE (pe_ve (by rfl) (T.free 5 rfl)) rfl (T.free 4 rfl) (sx_var (i := 1) rfl (by trivial)))))))) (ss_one (ss_ret (sx_str (by decide +kernel) (by decide +kernel)))) ss_nil)
    (ss_cons (ss_if (sp_val (sx_isCT FA0 (cs := [4, 2, 1]) (ClsCs.cons (TX.own true (by decide)) (ClsCs.cons (TX.own true (by decide)) (ClsCs.cons (TX.own false (by decide)) ClsCs.nil))) (of_decide_eq_true rfl) (pe_tup (pa_cons (pe_own (x := "NoMarks") 4 rfl (by rfl) (TX.at_ (c := 4) true (by decide))) (pa_cons (pe_own (x := "NoSaying") 2 rfl (by rfl) (TX.at_ (c := 2) true (by decide))) (pa_cons (pe_own (x := "NoWeb") 1 rfl (by rfl) (TX.at_ (c := 1) false (by decide))) pa_nil)))) rfl (T.free 4 rfl) (sx_var (i := 1) rfl (by trivial)))) (ss_one (ss_ret (sx_str (by decide +kernel) (by decide +kernel)))) ss_nil)
    (ss_one (ss_ret sx_non))))))))
theorem ok14 (T : Txt K mg ts fr ci cs fdv) (A : Oks P w K mg base tab ts fdv n) (TX : TxX K mg cl tps) (AX : OksX P w K mg base tab ts mrs fdv n) : FnOk P w K mg base CX0 (n + 1) (He.ga K "_law_number") (fdv 14) ["_law_word"] (spV K (FAof K ts) (call tab (n + 1) 14)) := by
  refine def_ok (Φ := call tab n) (d := d_law_number_k13) (T.fn 14 rfl) sc14 rfl rfl fun cdv A0 outer s H E hr => ?_
  have AL := alls_of T A (ball T)
  have hu1 := hu_of hr
  have hu64 := hu64_of hr
  have hu65 := hu65_of hr
  exact (ss_cons (ss_if (PW.pt (sw_or (sp_eq hu64 (sx_var (i := 0) rfl (by trivial)) (sx_str (by decide +kernel) (by decide +kernel))) (sw_or (sp_gt (sx_len (by rfl) (T.free 0 rfl) (sx_var (i := 0) rfl (by trivial))) sx_int) (sw_one (sp_ne hu64 (sx_compN [("_law_sign_here", 1)] rfl (by trivial) (by rfl) (fun _ _ _ _ _ => (pg_v (i := 1) sc14.nd rfl (by trivial) (by trivial))) (fun _ _ _ _ _ => (pts_if (sp_nin hu65 (sx_var (i := 1) rfl (by trivial)) (sx_str (by decide +kernel) (by decide +kernel))))) (fun _ _ _ _ _ => (sx_var (i := 1) rfl (by trivial))) sc14.nd) (sx_lst sa_nil)))))) (ss_one (ss_ret sx_non)) ss_nil)
    (ss_cons (ss_if (PW.pt (sw_or (sp_eq hu64 (sx_ix hu1 (sx_var (i := 0) rfl (by trivial)) sx_int) (sx_str (by decide +kernel) (by decide +kernel))) (sw_one (sp_gt (sx_int1 (by rfl) (T.free 2 rfl) (sx_var (i := 0) rfl (by trivial))) sx_int)))) (ss_one (ss_ret sx_non)) ss_nil)
    (ss_one (ss_ret (sx_tup (sa_cons (sx_str (by decide +kernel) (by decide +kernel)) (sa_cons (sx_int1 (by rfl) (T.free 2 rfl) (sx_var (i := 0) rfl (by trivial))) sa_nil)))))))
theorem ok15 (T : Txt K mg ts fr ci cs fdv) (A : Oks P w K mg base tab ts fdv n) (TX : TxX K mg cl tps) (AX : OksX P w K mg base tab ts mrs fdv n) : FnOk P w K mg base CX0 (n + 1) (He.ga K "_law_read") (fdv 15) ["_law_text", "_law_depth"] (spV K (FAof K ts) (call tab (n + 1) 15)) := by
  refine def_ok (Φ := call tab n) (d := d_law_read_k13) (T.fn 15 rfl) sc15 rfl rfl fun cdv A0 outer s H E hr => ?_
  have AL := alls_of T A (ball T)
  have hu1 := hu_of hr
  have hu64 := hu64_of hr
  have hu65 := hu65_of hr
  exact (ss_cons (ss_if (sp_in hu65 (sx_var (i := 0) rfl (by trivial)) (sx_lst (sa_cons (sx_str (by decide +kernel) (by decide +kernel)) (sa_cons (sx_str (by decide +kernel) (by decide +kernel)) (sa_cons (sx_str (by decide +kernel) (by decide +kernel)) (sa_cons (sx_str (by decide +kernel) (by decide +kernel)) (sa_cons (sx_str (by decide +kernel) (by decide +kernel)) (sa_cons (sx_str (by decide +kernel) (by decide +kernel)) (sa_cons (sx_str (by decide +kernel) (by decide +kernel)) (sa_cons (sx_str (by decide +kernel) (by decide +kernel)) (sa_cons (sx_str (by decide +kernel) (by decide +kernel)) sa_nil))))))))))) (ss_one (ss_ret (sx_tup (sa_cons (sx_var (i := 0) rfl (by trivial)) sa_nil)))) ss_nil)
    (ss_cons (ss_if (sp_eq hu64 (sx_sl (sx_var (i := 0) rfl (by trivial)) so_none (so_some sx_int)) (sx_str (by decide +kernel) (by decide +kernel))) (ss_one (ss_ret (sx_call (A 14 rfl) hr (by rfl) (T.glo 14 rfl) (T.fn 14 rfl).kp (b14 T) (sg_cons (sx_sl (sx_var (i := 0) rfl (by trivial)) (so_some sx_int) so_none) sg_nil)))) ss_nil)
    (ss_cons (ss_for (sx_lst (sa_cons (sx_str (by decide +kernel) (by decide +kernel)) (sa_cons (sx_str (by decide +kernel) (by decide +kernel)) sa_nil))) (pg_v (i := 2) sc15.nd rfl (by trivial) (by trivial)) (ss_cons (ss_set sc15.nd rfl (by trivial) (by trivial) (sx_add (sx_len (by rfl) (T.free 0 rfl) (sx_var (i := 2) rfl (by trivial))) sx_int))
    (ss_one (ss_if (PW.pt (sw_and (sp_eq hu64 (sx_sl (sx_var (i := 0) rfl (by trivial)) so_none (so_some (sx_var (i := 3) rfl (by trivial)))) (sx_add (sx_var (i := 2) rfl (by trivial)) (sx_str (by decide +kernel) (by decide +kernel)))) (sw_and (sp_eq hu64 (sx_sl (sx_var (i := 0) rfl (by trivial)) (so_some (sx_neg sx_int)) so_none) (sx_str (by decide +kernel) (by decide +kernel))) (sw_one (sp_gt (sx_var (i := 1) rfl (by trivial)) sx_int))))) (ss_cons (ss_set sc15.nd rfl (by trivial) (by trivial) (sx_sl (sx_var (i := 0) rfl (by trivial)) (so_some (sx_var (i := 3) rfl (by trivial))) (so_some (sx_neg sx_int))))
    (ss_one (ss_range1 rfl (T.free 6 rfl) (sa_cons (sx_len (by rfl) (T.free 0 rfl) (sx_var (i := 4) rfl (by trivial))) sa_nil) (pg_v (i := 5) sc15.nd rfl (by trivial) (by trivial)) (ss_one (ss_if (PW.pt (sw_and (sp_eq hu64 (sx_sl (sx_var (i := 4) rfl (by trivial)) (so_some (sx_var (i := 5) rfl (by trivial))) (so_some (sx_add (sx_var (i := 5) rfl (by trivial)) sx_int))) (sx_str (by decide +kernel) (by decide +kernel))) (sw_one (sp_eq hu64 (sx_cntS (sx_sl (sx_var (i := 4) rfl (by trivial)) so_none (so_some (sx_var (i := 5) rfl (by trivial))))) (sx_cntS (sx_sl (sx_var (i := 4) rfl (by trivial)) so_none (so_some (sx_var (i := 5) rfl (by trivial))))))))) (ss_cons (ss_set sc15.nd rfl (by trivial) (by trivial) (sx_call (A 15 rfl) hr (by rfl) (T.glo 15 rfl) (T.fn 15 rfl).kp (b15 T) (sg_cons (sx_sl (sx_var (i := 4) rfl (by trivial)) so_none (so_some (sx_var (i := 5) rfl (by trivial)))) (sg_cons (sx_sub (sx_var (i := 1) rfl (by trivial)) sx_int) sg_nil))))
    (ss_cons (ss_set sc15.nd rfl (by trivial) (by trivial) (sx_call (A 15 rfl) hr (by rfl) (T.glo 15 rfl) (T.fn 15 rfl).kp (b15 T) (sg_cons (sx_sl (sx_var (i := 4) rfl (by trivial)) (so_some (sx_add (sx_var (i := 5) rfl (by trivial)) sx_int)) so_none) (sg_cons (sx_sub (sx_var (i := 1) rfl (by trivial)) sx_int) sg_nil))))
    (ss_one (ss_if (PW.pt (sw_and (sp_isNN (sx_var (i := 6) rfl (by trivial))) (sw_one (sp_isNN (sx_var (i := 7) rfl (by trivial)))))) (ss_one (ss_ret (sx_tup (sa_cons (sx_var (i := 2) rfl (by trivial)) (sa_cons (sx_var (i := 6) rfl (by trivial)) (sa_cons (sx_var (i := 7) rfl (by trivial)) sa_nil)))))) ss_nil)))) ss_nil))))) ss_nil))))
    (ss_one (ss_ret sx_non)))))
theorem ok16 (T : Txt K mg ts fr ci cs fdv) (A : Oks P w K mg base tab ts fdv n) (TX : TxX K mg cl tps) (AX : OksX P w K mg base tab ts mrs fdv n) : FnOk P w K mg base CX0 (n + 1) (He.ga K "law") (fdv 16) ["_law_script"] (spV K (FAof K ts) (call tab (n + 1) 16)) := by
  refine def_ok (Φ := call tab n) (d := d_law_k13) (T.fn 16 rfl) sc16 rfl rfl fun cdv A0 outer s H E hr => ?_
  have AL := alls_of T A (ball T)
  have hu1 := hu_of hr
  have hu64 := hu64_of hr
  have hu65 := hu65_of hr
  exact (ss_cons (ss_range1 rfl (T.free 6 rfl) (sa_cons (sx_max2 (by rfl) (T.free 7 rfl) sx_int (sx_min2 (by rfl) (T.free 8 rfl) (sx_len (by rfl) (T.free 0 rfl) (sx_var (i := 0) rfl (by trivial))) sx_int)) sa_nil) (pg_v (i := 1) sc16.nd rfl (by trivial) (by trivial)) (ss_cons (ss_set sc16.nd rfl (by trivial) (by trivial) (sx_call (A 1 rfl) hr (by rfl) (T.glo 1 rfl) (T.fn 1 rfl).kp (b1 T) (sg_cons (sx_var (i := 0) rfl (by trivial)) (sg_cons (sx_var (i := 1) rfl (by trivial)) sg_nil))))
    (ss_cons (ss_set sc16.nd rfl (by trivial) (by trivial) (sx_call (A 4 rfl) hr (by rfl) (T.glo 4 rfl) (T.fn 4 rfl).kp (b4 T) (sg_io (i := 5) rfl (by trivial) (sg_cons sx_int sg_nil))))
    (ss_cons (ss_set sc16.nd rfl (by trivial) (by trivial) (sx_call (A 5 rfl) hr (by rfl) (T.glo 5 rfl) (T.fn 5 rfl).kp (b5 T) (sg_cons (sx_var (i := 6) rfl (by trivial)) sg_nil)))
    (ss_cons (ss_set sc16.nd rfl (by trivial) (by trivial) (sx_call (A 7 rfl) hr (by rfl) (T.glo 7 rfl) (T.fn 7 rfl).kp (b7 T) (sg_cons (sx_var (i := 7) rfl (by trivial)) (sg_io (i := 5) rfl (by trivial) sg_nil))))
    (ss_cons (ss_if (PW.pt (sw_or (sp_ne hu64 (sx_call (A 13 rfl) hr (by rfl) (T.glo 13 rfl) (T.fn 13 rfl).kp (b13 T) (sg_cons (sx_var (i := 8) rfl (by trivial)) sg_nil)) (sx_call (A 15 rfl) hr (by rfl) (T.glo 15 rfl) (T.fn 15 rfl).kp (b15 T) (sg_cons (sx_var (i := 8) rfl (by trivial)) (sg_cons sx_int sg_nil)))) (sw_one (sp_ne hu64 (sx_call (A 13 rfl) hr (by rfl) (T.glo 13 rfl) (T.fn 13 rfl).kp (b13 T) (sg_cons (sx_var (i := 7) rfl (by trivial)) sg_nil)) (sx_var (i := 6) rfl (by trivial)))))) (ss_one (ss_ret sx_bl)) ss_nil)
    (ss_one (ss_if (sp_ne hu64 (sx_call (A 13 rfl) hr (by rfl) (T.glo 13 rfl) (T.fn 13 rfl).kp (b13 T) (sg_cons (sx_add (sx_var (i := 7) rfl (by trivial)) (sx_var (i := 8) rfl (by trivial))) sg_nil)) (sx_call (A 15 rfl) hr (by rfl) (T.glo 15 rfl) (T.fn 15 rfl).kp (b15 T) (sg_cons (sx_add (sx_var (i := 7) rfl (by trivial)) (sx_var (i := 8) rfl (by trivial))) (sg_cons sx_int sg_nil)))) (ss_one (ss_ret sx_bl)) ss_nil))))))))
    (ss_cons (ss_set sc16.nd rfl (by trivial) (by trivial) (sx_lst (sa_cons (sx_str (by decide +kernel) (by decide +kernel)) (sa_cons (sx_str (by decide +kernel) (by decide +kernel)) (sa_cons (sx_str (by decide +kernel) (by decide +kernel)) (sa_cons (sx_str (by decide +kernel) (by decide +kernel)) (sa_cons (sx_str (by decide +kernel) (by decide +kernel)) (sa_cons (sx_str (by decide +kernel) (by decide +kernel)) (sa_cons (sx_str (by decide +kernel) (by decide +kernel)) (sa_cons (sx_str (by decide +kernel) (by decide +kernel)) (sa_cons (sx_str (by decide +kernel) (by decide +kernel)) (sa_cons (sx_str (by decide +kernel) (by decide +kernel)) sa_nil))))))))))))
    (ss_cons (ss_set sc16.nd rfl (by trivial) (by trivial) (sx_cat (sx_var (i := 2) rfl (by trivial)) (sx_lst (sa_cons (sx_add (sx_add (sx_mul (sx_str (by decide +kernel) (by decide +kernel)) sx_int) (sx_str (by decide +kernel) (by decide +kernel))) (sx_mul (sx_str (by decide +kernel) (by decide +kernel)) sx_int)) (sa_cons (sx_str (by decide +kernel) (by decide +kernel)) (sa_cons (sx_str (by decide +kernel) (by decide +kernel)) sa_nil))))))
    (ss_cons (ss_set sc16.nd rfl (by trivial) (by trivial) (sx_cat (sx_var (i := 2) rfl (by trivial)) (sx_lst (sa_cons (sx_str (by decide +kernel) (by decide +kernel)) (sa_cons (sx_str (by decide +kernel) (by decide +kernel)) (sa_cons (sx_str (by decide +kernel) (by decide +kernel)) (sa_cons (sx_str (by decide +kernel) (by decide +kernel)) (sa_cons (sx_add (sx_str (by decide +kernel) (by decide +kernel)) (sx_mul (sx_str (by decide +kernel) (by decide +kernel)) sx_int)) (sa_cons (sx_mul (sx_str (by decide +kernel) (by decide +kernel)) sx_int) sa_nil)))))))))
    (ss_cons (ss_set sc16.nd rfl (by trivial) (by trivial) (sx_cat (sx_var (i := 2) rfl (by trivial)) (sx_lst (sa_cons (sx_add (sx_add (sx_mul (sx_str (by decide +kernel) (by decide +kernel)) sx_int) (sx_str (by decide +kernel) (by decide +kernel))) (sx_mul (sx_str (by decide +kernel) (by decide +kernel)) sx_int)) (sa_cons (sx_mul (sx_str (by decide +kernel) (by decide +kernel)) sx_int) sa_nil)))))
    (ss_cons (ss_for (sx_cat (sx_var (i := 2) rfl (by trivial)) (sx_lst (sa_cons sx_non (sa_cons sx_int (sa_cons sx_bl (sa_cons (sx_tup (sa_cons (sx_str (by decide +kernel) (by decide +kernel)) sa_nil)) (sa_cons (sx_lst (sa_cons (sx_str (by decide +kernel) (by decide +kernel)) sa_nil)) (sa_cons sx_dct0 (sa_cons sx_int (sa_cons (sx_tup sa_nil) sa_nil)))))))))) (pg_v (i := 3) sc16.nd rfl (by trivial) (by trivial)) (ss_one (ss_if (sp_isNN (sx_call (A 13 rfl) hr (by rfl) (T.glo 13 rfl) (T.fn 13 rfl).kp (b13 T) (sg_cons (sx_var (i := 3) rfl (by trivial)) sg_nil))) (ss_one (ss_ret sx_bl)) ss_nil)))
    (ss_cons (ss_set sc16.nd rfl (by trivial) (by trivial) (sx_tup (sa_cons (sx_str (by decide +kernel) (by decide +kernel)) (sa_cons (sx_tup (sa_cons (sx_str (by decide +kernel) (by decide +kernel)) (sa_cons sx_int sa_nil))) (sa_cons (sx_tup (sa_cons (sx_str (by decide +kernel) (by decide +kernel)) (sa_cons (sx_tup (sa_cons (sx_str (by decide +kernel) (by decide +kernel)) sa_nil)) (sa_cons (sx_tup (sa_cons (sx_str (by decide +kernel) (by decide +kernel)) sa_nil)) sa_nil)))) sa_nil)))))
    (ss_one (ss_ret (sx_eq hu64 (sx_call (A 13 rfl) hr (by rfl) (T.glo 13 rfl) (T.fn 13 rfl).kp (b13 T) (sg_cons (sx_str (by decide +kernel) (by decide +kernel)) sg_nil)) (sx_var (i := 4) rfl (by trivial))))))))))))
theorem okx12 (T : Txt K mg ts fr ci cs fdv) (A : Oks P w K mg base tab ts fdv n) (TX : TxX K mg cl tps) (AX : OksX P w K mg base tab ts mrs fdv n) : FnOk P w K mg base (CX P w) (n + 1) (He.ga K "read_saying") (fdv 12) ["text"] (spX K (FAof K ts) (call tab (n + 1) (12 + RZ))) := by
  rw [callx_eq (g := 12) (d := d_read_saying) rfl rfl]
  refine def_okX (Φ := call tab n) (d := d_read_saying) (T.fn 12 rfl) sc12 rfl rfl fun cdv A0 outer s H E hr => ?_
  have AL := alls_of T A (ball T)
  have hu1 := hu_of hr
  have hu64 := hu64_of hr
  have hu65 := hu65_of hr
  exact (ss_cons (ss_if (sp_not (sp_val (sx_isi .str boot_str' (by rfl) (T.free 4 rfl) (by rfl) (T.free 1 rfl) (sx_var (i := 0) rfl (by trivial))))) (ss_one (ss_rs (c := 3) rfl (by rfl) (TX.at_ (c := 3) true (by decide)) (TX.xc (c := 3) true (by decide)) (TX.exc (c := 3) (by decide)) (by first | exact tk_none | exact L2.takes_of rfl rfl rfl rfl | assumption))) ss_nil)
    (ss_cons (ss_set sc12.nd rfl (by trivial) (by trivial) (sx_call (A 11 rfl) hr (by rfl) (T.glo 11 rfl) (T.fn 11 rfl).kp (b11 T) (sg_cons (sx_var (i := 0) rfl (by trivial)) (sg_cons (sx_gint (by rfl) (T.int 2 rfl)) sg_nil))))
    (ss_cons (ss_if (sp_isN (sx_var (i := 1) rfl (by trivial))) (ss_one (ss_rs (c := 3) rfl (by rfl) (TX.at_ (c := 3) true (by decide)) (TX.xc (c := 3) true (by decide)) (TX.exc (c := 3) (by decide)) (by first | exact tk_none | exact L2.takes_of rfl rfl rfl rfl | assumption))) ss_nil)
    (ss_one (ss_ret (sx_var (i := 1) rfl (by trivial)))))))
theorem oksb (T : Txt K mg ts fr ci cs fdv) (TX : TxX K mg cl tps) (n : Nat) : Oks P w K mg base tab ts fdv n ∧ OksX P w K mg base tab ts mrs fdv n := by
  induction n with
  | zero => exact ⟨oks0, oksx0⟩
  | succ n ih =>
    obtain ⟨A, AX⟩ := ih
    refine ⟨fun i h => ?_, fun i h m => ?_⟩
    · match i, h with
      | 0, h => cases h; exact ok0 T A TX AX
      | 1, h => cases h; exact ok1 T A TX AX
      | 2, h => cases h; exact ok2 T A TX AX
      | 3, h => cases h; exact ok3 T A TX AX
      | 4, h => cases h; exact ok4 T A TX AX
      | 5, h => cases h; exact ok5 T A TX AX
      | 6, h => cases h; exact ok6 T A TX AX
      | 7, h => cases h; exact ok7 T A TX AX
      | 8, h => cases h; exact ok8 T A TX AX
      | 9, h => cases h; exact ok9 T A TX AX
      | 10, h => cases h; exact ok10 T A TX AX
      | 11, h => cases h; exact ok11 T A TX AX
      | 12, h => cases h; exact ok12 T A TX AX
      | 13, h => cases h; exact ok13 T A TX AX
      | 14, h => cases h; exact ok14 T A TX AX
      | 15, h => cases h; exact ok15 T A TX AX
      | 16, h => cases h; exact ok16 T A TX AX
      | k + 17, h => cases h
    · simp only [mrs, List.mem_cons, List.not_mem_nil, or_false] at m
      subst m
      · cases h; exact okx12 T A TX AX
theorem oks (T : Txt K mg ts fr ci cs fdv) (TX : TxX K mg cl tps) (n : Nat) : Oks P w K mg base tab ts fdv n := (oksb T TX n).1
end
end L_besidesay_k13_texts_that_are_none
section
open PySem PySem.W PySem.Calls PyProof.Rows
theorem holds_of (hpure : ∀ ns : List Int, ns.length ≤ 63 → ∃ w os, BS.call BS.tab 60 16 [(.scr ns, .deep)] = some ((.bl true, w), os)) : PySem.Challenge.rw_besidesay_k13_texts_that_are_none.Holds := by
  w_on; o_law
  refine HandSHeadRun.head_any (r := OpenLaw.row PySem.Challenge.rw_besidesay_k13_texts_that_are_none) (q := view (OpenLaw.row PySem.Challenge.rw_besidesay_k13_texts_that_are_none).prog [30]) (H := L_besidesay_k13_texts_that_are_none.hk) (ob := L_besidesay_k13_texts_that_are_none.ob) (M := 5040) (loose := L_besidesay_k13_texts_that_are_none.loose) (d := HandSHeadRun.topDef (OpenLaw.row PySem.Challenge.rw_besidesay_k13_texts_that_are_none).prog 30) (kwd := []) L_besidesay_k13_texts_that_are_none.ob_eq
    (by kernel_rfl) (fun s => by kernel_rfl) L_besidesay_k13_texts_that_are_none.run (by kernel_rfl) (by kernel_rfl) (by kernel_rfl) (by rfl) (by first | assumption | decide +kernel) (by decide +kernel) ⟨rfl, rfl, rfl, rfl, rfl, by decide +kernel⟩ ?hw ?hc
  case hw => w_witness2
  case hc =>
    refine L2.walk_ofE (l := PySem.Challenge.rw_besidesay_k13_texts_that_are_none) (n := 63) (k := 60) (x := "_law_script") (CX := L2.CX0) rfl (by decide) (by kernel_rfl) ⟨rfl, by decide, by decide⟩ ?F (fun _ _ _ _ z => z)
    intro w mg fa h Y G hmg0
    obtain ⟨K, KX, c, ec⟩ := Y
    have hmg : mg ("law" : PySem.Str) = some (.ref fa) := by
      have e : (HandSHeadRun.topDef (OpenLaw.row PySem.Challenge.rw_besidesay_k13_texts_that_are_none).prog 30).name = ("law" : PySem.Str) := by kernel_rfl
      rw [← e]
      exact hmg0
    obtain ⟨fdv, T⟩ := BS.Txt.of KX G c
    have TX := BS.TxX.of KX G ec
    have e := hmg.symm.trans (T.glo (st := L_besidesay_k13_texts_that_are_none.s16) (ps := ["_law_script"]) 16 rfl)
    cases e
    have b := L2.FunD.bindsA (ps := ["_law_script"]) (T.fn (st := L_besidesay_k13_texts_that_are_none.s16) (ps := ["_law_script"]) 16 rfl) fun _ _ _ _ _ _ us hl => match us, hl with | [_], _ => rfl
    exact ⟨K, fdv 16, BS.spV K (BS.FAof K L_besidesay_k13_texts_that_are_none.ts) (BS.call BS.tab 60 16), KX, fun s v => b s [v] rfl, fun H a ns hl _ hS => BS.law_sp (hpure ns hl) hS, fun base _ _ => L_besidesay_k13_texts_that_are_none.oks T TX 60 16 rfl⟩

end
set_option maxHeartbeats 4000000
namespace BS
open PySem L2
local macro_rules | `(tactic| simpa! [$ls,*]) => `(tactic| simp (config := {dsimp := false, failIfUnchanged := false}) only [a1_all2, a1_any2, ↓W_ssetT, ↓W_slk, slkOk_l, ↓W_getS, ↓W_dctT, ↓W_shp, ↓W_part, ↓W_catT, catTD_t, ↓X_seq, ↓X_ite, ↓X_set, ↓X_setIx, ↓X_setP, ↓X_expr, ↓X_ret, ↓X_retn, ↓X_skip, ↓X_for, ↓X_rs, ↓W_xc, ↓W_sc, ↓W_ic, ↓W_try, ↓W_tryU, allInl_nil, allInl_cons, plain_err, kplain_err, vl_err, isNon_err, isDicD_err, a1_isCe, a1_isCn, a1_isCb, a1_isCi, a1_isCs, a1_isCl, a1_isCt, a1_isCd, wrS_rs, wrS_xc, wrS_sc, wrS_ic, wrS_try, wrS_tryU, wrS_apw, ↓W_sset, sset_l, ↓W_swp, ↓X_swp, wrS_swp, ↓W_forT, a1_tru, wrS_forTv, wrS_forTl, idxE_int, idxE_var, idxV_some, ↓W_popS, ↓X_popS, wrS_popS, ↓W_apN, ↓X_apN, wrS_apN, ↓W_popK, ↓X_popK, wrS_popK, popD_l, ↓W_seq, ↓W_ite, ↓W_op1, ↓W_op2, ↓W_ix, ↓W_var, ↓W_shv, ↓W_int, ↓W_str, ↓W_bl, ↓W_non, ↓W_glo, ↓W_dct0, ↓W_inG, ↓W_mut, ↓W_nil, ↓W_cons, ↓W_tup, ↓W_lst, ↓W_and, ↓W_or, ↓W_ife, ↓W_list, ↓W_cat, ↓W_sl, ↓W_call, ↓W_anil, ↓W_aio, ↓W_gnil, ↓W_ginl, ↓W_ginr, ↓W_skip, ↓W_setv, ↓W_setT, ↓W_expr, ↓W_retn, ↓W_retv, ↓W_inil, ↓W_icons, ↓W_for, ↓W_rng, ↓W_of, ↓W_enu, ↓W_keys, ↓W_zip, ↓W_rev, ↓W_comp, ↓W_setIx, CHG_nil, GS_z, GS_s, OP_some, OP_ite, OP_map, PUT_def, BR_t, BR_f, BO_b, PL_t, PL_f, ↓ESC_var, ↓ESC_ix, ↓KESC_var, ↓KESC_ix, ↓HOLD_var, ↓HOLD_ix, ↓BRW_var, ↓BRW_ix, scat_ni, scat_il, scat_inr, List.tail_cons, List.set_cons_zero, List.set_cons_succ, shS_z, shS_s, shD_z, shD_s, item_lst', item_tup', item_scr', atI_lit, a2_add, a2_sub, a2_mul, a2_fdiv, a2_mod, a2_pow, a2_shl, a2_shr, a2_band, a2_bor, a2_lt, a2_le, a2_gt, a2_ge, a2_eqi, a2_nei, a2_max, a2_min, a2_inl, a2_int, a2_nil, a2_nit, a2_ind, a2_nid, a1_not, a1_neg, a1_len, a1_int, a1_intb, a1_str, a1_abs, a1_isN, a1_isNN, a1_isi, len_lst, len_tup, len_scr, len_dic, setD_l, setD_d, mut_app, mut_ext, mut_ins, ixN_lit, it_of, it_oft, it_r1, it_r2, it_r3, it_enu, it_zip, it_rev, ↓W_opT, ↓W_mv, tupD_l, ↓W_opD, ↓W_opS, ↓EK_var, ↓EK_ix, ↓W_mutP, CHP_def, isEmpty_cons', kidsD_one, kidsD_two, updP_one, updP_two, mut_clr, mut_rvs, a1_lset, a1_lsetf, srt_f, srt_l, plain_f, kplain_f, isDicD_f, isiOk_f, ty_f, isNon_f, isLstD_f, vl_f', it_keysf, listD_f, len_f, a2_inf, a2_nif, ↓W_op3, ↓W_comph, ↓W_brw, ↓W_dpop, dicOf_f, OP_lend, lend_nil, unlA_t, unlA_f, unlA_nil, bOk_nil, bOk_cons, FLT_n, FLT_z, FLT_s, flat_int, flat_bl, flat_non, flat_tx, flat_tup, flats_nil, flats_cons, a2_index, a3_getdi, Option.bind_some, it_keys, it_keysl, it_keyst, it_keystx, ↓W_opr, rev_l, rev_map, zip0_map, ds_nil, ds_cons, listD_l, listD_t, bind_t, bind_l, binds_nil, binds_cons, bind_v, List.getElem?_cons_zero, List.getElem?_cons_succ, List.length_cons, List.length_nil, List.contains_nil, List.contains_cons, List.nil_append, List.append_nil, List.cons_append, Bool.and_true, Bool.true_and, Bool.and_false, Bool.false_and, Bool.or_true, Bool.true_or, Bool.or_false, Bool.false_or, Bool.not_true, Bool.not_false, decide_true, decide_false, if_true, if_false, true_and, and_true, ne_eq, not_false_eq_true, not_true_eq_false, false_and, and_false, Option.some.injEq, Option.map_some, reduceCtorEq, reduceIte, Nat.reduceAdd, Nat.reduceLT, Nat.reduceEqDiff, Nat.reduceBEq, Int.reduceLT, Int.reduceLE, Int.reduceEq, Int.reduceAdd, Int.reduceSub, Int.reduceMul, Int.reduceNeg, Int.reducePow, Nat.reducePow, Bool.false_eq_true, Int.reduceToNat, or_true, true_or, or_false, false_or, natAbs_lit, a2_eqb, a2_neb, cast_lit, ↓W_dct, ↓W_callv, fnOf_fn, pairUp_nil, pairUp_cons, keysOk_eq, kdist_nil, kdist_cons, dhas_nil, dhas_cons, keq_int, keq_tx, keyOk_int, keyOk_tx, dget_nil, dget_cons, vals_nil, vals_cons, item_dic, set_dn, set_tx, set_int, ↓newLst_deep, plainsApp, app_map, a1_intt, intT0, intT1, a1_sum, a1_sumd, a2_count, dn_int, plains_dn, scalars_dn, shps_dn, a2_eqld, a2_neld, a1_isBt, a1_isBf, a1_isBn, a1_isBi, a1_isBs, a1_isBl, W_FLnil, W_FLcons, List.any_cons, List.any_nil, a2_eql0, a2_nel0, shps_tx, shps_ints, isEmpty_map, sIx_n, sIx_s, slD_l, slD_t, drop_map, take_map, a2_eqlt, a2_nelt, a2_eqli, a2_neli, Bool.and_eq_true, decide_eq_true_eq, filt_true, atI_map, catD_l, eq_self, true_implies, implies_true, line_def, plains_tx, plains_ints, scalars_tx, scalars_ints, inB_iff, rng_length, Nat.reduceLeDiff, and_self, Nat.reduceMul, List.length_map, List.forall_mem_cons, plain_tx, kplain_tx, scalar_tx, vl_tx, isNon_tx, isDicD_tx, isiOk_tx, ty_tx_str, ty_tx_int, ty_tx_bool, ty_tx_list, ty_tx_tuple, ty_tx_dict, len_tx, item_tx, a2_addt, a2_eqt, a2_net, deq_tx, a2_joine, a2_mult, it_tx, slD_tx, a2_ins, a2_nins, wipes_nil, wipes_cons, back_nil, back_cons, KP_n, KP_d, KP_t, KP_h, KP_s, keepNil, keepCons, shv_d, getD_z, getD_s, Bool.and_self, List.map_cons, List.map_nil, ↓ESC_int, ↓KESC_int, ↓HOLD_int, ↓BRW_int, ↓Wac_int, ↓Wret_int, slI_int, isPl_int, ↓ESC_shv, ↓KESC_shv, ↓HOLD_shv, ↓BRW_shv, ↓Wac_shv, ↓Wret_shv, slI_shv, isPl_shv, ↓ESC_shp, ↓KESC_shp, ↓HOLD_shp, ↓BRW_shp, ↓Wac_shp, ↓Wret_shp, slI_shp, isPl_shp, ↓ESC_str, ↓KESC_str, ↓HOLD_str, ↓BRW_str, ↓Wac_str, ↓Wret_str, slI_str, isPl_str, ↓ESC_bl, ↓KESC_bl, ↓HOLD_bl, ↓BRW_bl, ↓Wac_bl, ↓Wret_bl, slI_bl, isPl_bl, ↓ESC_non, ↓KESC_non, ↓HOLD_non, ↓BRW_non, ↓Wac_non, ↓Wret_non, isPl_non, ↓ESC_glo, ↓KESC_glo, ↓HOLD_glo, ↓BRW_glo, ↓Wac_glo, ↓Wret_glo, slI_glo, isPl_glo, ↓ESC_io, ↓KESC_io, ↓HOLD_io, ↓BRW_io, ↓Wret_io, slI_io, isPl_io, ↓ESC_mv, ↓KESC_mv, ↓HOLD_mv, ↓BRW_mv, ↓Wac_mv, ↓Wret_mv, slI_mv, isPl_mv, ↓ESC_sl, ↓KESC_sl, ↓HOLD_sl, ↓BRW_sl, ↓Wac_sl, ↓Wret_sl, slI_sl, isPl_sl, ↓ESC_op1, ↓KESC_op1, ↓HOLD_op1, ↓BRW_op1, ↓Wac_op1, ↓Wret_op1, slI_op1, isPl_op1, ↓ESC_op2, ↓KESC_op2, ↓HOLD_op2, ↓BRW_op2, ↓Wac_op2, ↓Wret_op2, slI_op2, isPl_op2, ↓ESC_op3, ↓KESC_op3, ↓HOLD_op3, ↓BRW_op3, ↓Wac_op3, ↓Wret_op3, slI_op3, isPl_op3, ↓ESC_getS, ↓KESC_getS, ↓HOLD_getS, ↓BRW_getS, ↓Wac_getS, ↓Wret_getS, slI_getS, isPl_getS, ↓ESC_opP, ↓KESC_opP, ↓HOLD_opP, ↓BRW_opP, ↓Wac_opP, ↓Wret_opP, slI_opP, isPl_opP, ↓ESC_cat, ↓KESC_cat, ↓HOLD_cat, ↓BRW_cat, ↓Wac_cat, ↓Wret_cat, slI_cat, isPl_cat, ↓ESC_catT, ↓KESC_catT, ↓HOLD_catT, ↓BRW_catT, ↓Wac_catT, ↓Wret_catT, slI_catT, isPl_catT, ↓ESC_rep, ↓KESC_rep, ↓HOLD_rep, ↓BRW_rep, ↓Wac_rep, ↓Wret_rep, slI_rep, isPl_rep, ↓ESC_and, ↓KESC_and, ↓HOLD_and, ↓BRW_and, ↓Wac_and, ↓Wret_and, slI_and, isPl_and, ↓ESC_or, ↓KESC_or, ↓HOLD_or, ↓BRW_or, ↓Wac_or, ↓Wret_or, slI_or, isPl_or, ↓ESC_ife, ↓KESC_ife, ↓HOLD_ife, ↓BRW_ife, ↓Wac_ife, ↓Wret_ife, slI_ife, isPl_ife, ↓ESC_tup, ↓KESC_tup, ↓HOLD_tup, ↓BRW_tup, ↓Wac_tup, ↓Wret_tup, slI_tup, isPl_tup, ↓ESC_lst, ↓KESC_lst, ↓HOLD_lst, ↓BRW_lst, ↓Wac_lst, ↓Wret_lst, slI_lst, isPl_lst, ↓ESC_dct0, ↓KESC_dct0, ↓HOLD_dct0, ↓BRW_dct0, ↓Wac_dct0, ↓Wret_dct0, slI_dct0, isPl_dct0, ↓ESC_dct, ↓KESC_dct, ↓HOLD_dct, ↓BRW_dct, ↓Wac_dct, ↓Wret_dct, slI_dct, isPl_dct, ↓ESC_dctT, ↓KESC_dctT, ↓HOLD_dctT, ↓BRW_dctT, ↓Wac_dctT, ↓Wret_dctT, slI_dctT, isPl_dctT, ↓ESC_inG, ↓KESC_inG, ↓HOLD_inG, ↓BRW_inG, ↓Wac_inG, ↓Wret_inG, slI_inG, isPl_inG, ↓ESC_call, ↓KESC_call, ↓HOLD_call, ↓BRW_call, ↓Wac_call, ↓Wret_call, slI_call, isPl_call, ↓ESC_callv, ↓KESC_callv, ↓HOLD_callv, ↓BRW_callv, ↓Wac_callv, ↓Wret_callv, slI_callv, isPl_callv, ↓ESC_mut, ↓KESC_mut, ↓HOLD_mut, ↓BRW_mut, ↓Wac_mut, ↓Wret_mut, slI_mut, isPl_mut, ↓ESC_mutP, ↓KESC_mutP, ↓HOLD_mutP, ↓BRW_mutP, ↓Wac_mutP, ↓Wret_mutP, slI_mutP, isPl_mutP, ↓ESC_clrP, ↓KESC_clrP, ↓HOLD_clrP, ↓BRW_clrP, ↓Wac_clrP, ↓Wret_clrP, slI_clrP, isPl_clrP, ↓ESC_comp, ↓KESC_comp, ↓HOLD_comp, ↓BRW_comp, ↓Wac_comp, ↓Wret_comp, slI_comp, isPl_comp, ↓ESC_comph, ↓KESC_comph, ↓HOLD_comph, ↓BRW_comph, ↓Wac_comph, ↓Wret_comph, slI_comph, isPl_comph, ↓ESC_brw, ↓KESC_brw, ↓HOLD_brw, ↓BRW_brw, ↓Wac_brw, ↓Wret_brw, slI_brw, isPl_brw, ↓ESC_dpop, ↓KESC_dpop, ↓HOLD_dpop, ↓BRW_dpop, ↓Wac_dpop, ↓Wret_dpop, slI_dpop, isPl_dpop, ↓ESC_dupd, ↓KESC_dupd, ↓HOLD_dupd, ↓BRW_dupd, ↓Wac_dupd, ↓Wret_dupd, slI_dupd, isPl_dupd, ↓ESC_anyT, ↓KESC_anyT, ↓HOLD_anyT, ↓BRW_anyT, ↓Wac_anyT, ↓Wret_anyT, slI_anyT, isPl_anyT, ↓ESC_slk, ↓KESC_slk, ↓HOLD_slk, ↓BRW_slk, ↓Wac_slk, ↓Wret_slk, slI_slk, isPl_slk, ↓Wac_var, ↓Wac_ix, ↓Wret_ix, slI_non, slI_var, slI_ix, isPl_var, isPl_ix, root_var, root_ix, plain_non, kpl_non, vl_non, isDicD_non, isNon_non, isLstD_non, down_nond, down_nont, down_nons, scalar_non, isiOk_non, ty_non_int, ty_non_str, ty_non_bool, ty_non_list, ty_non_tuple, ty_non_dict, plain_bl, kpl_bl, vl_bl, isDicD_bl, isNon_bl, isLstD_bl, down_bld, down_blt, down_bls, scalar_bl, isiOk_bl, ty_bl_int, ty_bl_str, ty_bl_bool, ty_bl_list, ty_bl_tuple, ty_bl_dict, plain_int, kpl_int, vl_int, isDicD_int, isNon_int, isLstD_int, down_intd, down_intt, down_ints, scalar_int, isiOk_int, ty_int_int, ty_int_str, ty_int_bool, ty_int_list, ty_int_tuple, ty_int_dict, plain_str, kpl_str, vl_str, isDicD_str, isNon_str, isLstD_str, down_strd, down_strt, down_strs, scalar_str, isiOk_str, ty_str_int, ty_str_str, ty_str_bool, ty_str_list, ty_str_tuple, ty_str_dict, plain_fn, kpl_fn, vl_fn, isDicD_fn, isNon_fn, isLstD_fn, down_fnd, down_fnt, down_fns, scalar_fn, ty_fn_int, ty_fn_str, ty_fn_bool, ty_fn_list, ty_fn_tuple, ty_fn_dict, plain_scr, kpl_scr, vl_scr, isDicD_scr, isNon_scr, isLstD_scr, down_scrd, down_scrt, down_scrs, scalar_scr, ty_scr_int, ty_scr_str, ty_scr_bool, ty_scr_list, ty_scr_tuple, ty_scr_dict, plain_tup, kpl_tup, vl_tup, isDicD_tup, isNon_tup, isLstD_tup, down_tupd, down_tupt, down_tups, scalar_tup, isiOk_tup, ty_tup_int, ty_tup_str, ty_tup_bool, ty_tup_list, ty_tup_tuple, ty_tup_dict, plain_lst, kpl_lst, vl_lst, isDicD_lst, isNon_lst, isLstD_lst, down_lstd, down_lstt, down_lsts, scalar_lst, isiOk_lst, ty_lst_int, ty_lst_str, ty_lst_bool, ty_lst_list, ty_lst_tuple, ty_lst_dict, plain_dic, kpl_dic, vl_dic, isDicD_dic, isNon_dic, isLstD_dic, down_dicd, down_dict, down_dics, scalar_dic, ty_dic_int, ty_dic_str, ty_dic_bool, ty_dic_list, ty_dic_tuple, ty_dic_dict, isiOk_dic, plains_nil, plains_cons, scalars_nil, scalars_cons, kid_deep, kid_top, kid_sh, allDeep_nil, allDeep_deep, allDeep_sh, allDeep_top, mkTup_ite, mkLst_ite, newLst_ite, wr_int, wr_shv, wr_shp, wr_str, wr_bl, wr_non, wr_glo, wr_var, wr_dct0, wr_io, wr_mv, wr_getS, wr_clrP, wr_catT, wr_ix, wr_sl, wr_op1, wr_op2, wr_op3, wr_opP, wr_cat, wr_rep, wr_and, wr_or, wr_tup, wr_lst, wr_call, wrS_skip, wrS_seq, wrS_set, wrS_setIx, wrS_setP, wrS_expr, wrS_ite, wrS_for_, wrS_whl, wrS_ret, wrS_retn, wr_ife, wr_inG, wr_callv, wr_mut, wr_mutP, wr_slk, wr_brw, wr_dpop, wr_comphv, wr_compv, wr_compt, wrs_nil, wrs_cons, wrx_def, tgs_v, tgs_t, S_len, st_, st_20, st_28, st_28292c2030313539, st_28747265652c206e65617229, st_29, st_2c, st_2c20, st_2c206e65617229, st_30, st_30313233343536373839, st_31, st_54726565, st_616e6f74686572, st_62616c6c, st_62617265, st_626f7468, st_626f746828, st_626f7468287472656529, st_6368656170657374, st_656974686572, st_6d616e79, st_6d616e7920, st_6d616e79202035, st_6d616e79202d31, st_6d616e792030, st_6d616e79203035, st_6d616e792034303936, st_6e656172, st_6f6464, st_70616972696e67, st_726f756e64, st_7369646573, st_74726565, st_747265650a, st_9ed719ec24b0, st_abffc981e44a, st_c9905e9462b5, st_cffa957422c7, st_e82b69c6dcff, st_feeb9589fd1b, $ls,*])
local macro_rules | `(tactic| simp_all! [$ls,*]) => `(tactic| simp (config := {dsimp := false, failIfUnchanged := false}) only [a1_all2, a1_any2, ↓W_ssetT, ↓W_slk, slkOk_l, ↓W_getS, ↓W_dctT, ↓W_shp, ↓W_part, ↓W_catT, catTD_t, ↓X_seq, ↓X_set, ↓X_setIx, ↓X_setP, ↓X_expr, ↓X_ret, ↓X_retn, ↓X_skip, ↓X_for, ↓X_rs, ↓W_xc, ↓W_sc, ↓W_ic, ↓W_try, ↓W_tryU, allInl_nil, allInl_cons, plain_err, kplain_err, vl_err, isNon_err, isDicD_err, a1_isCe, a1_isCn, a1_isCb, a1_isCi, a1_isCs, a1_isCl, a1_isCt, a1_isCd, wrS_rs, wrS_xc, wrS_sc, wrS_ic, wrS_try, wrS_tryU, wrS_apw, ↓W_sset, sset_l, ↓W_swp, ↓X_swp, wrS_swp, ↓W_forT, a1_tru, wrS_forTv, wrS_forTl, idxE_int, idxE_var, idxV_some, ↓W_popS, ↓X_popS, wrS_popS, ↓W_apN, ↓X_apN, wrS_apN, ↓W_popK, ↓X_popK, wrS_popK, popD_l, ↓W_seq, ↓W_op1, ↓W_op2, ↓W_ix, ↓W_var, ↓W_shv, ↓W_int, ↓W_str, ↓W_bl, ↓W_non, ↓W_glo, ↓W_dct0, ↓W_inG, ↓W_mut, ↓W_nil, ↓W_cons, ↓W_tup, ↓W_lst, ↓W_and, ↓W_or, ↓W_ife, ↓W_list, ↓W_cat, ↓W_sl, ↓W_call, ↓W_anil, ↓W_aio, ↓W_gnil, ↓W_ginl, ↓W_ginr, ↓W_skip, ↓W_setv, ↓W_setT, ↓W_expr, ↓W_retn, ↓W_retv, ↓W_inil, ↓W_icons, ↓W_for, ↓W_rng, ↓W_of, ↓W_enu, ↓W_keys, ↓W_zip, ↓W_rev, ↓W_comp, ↓W_setIx, CHG_nil, GS_z, GS_s, OP_some, OP_ite, OP_map, PUT_def, BR_t, BR_f, BO_b, PL_t, PL_f, ↓ESC_var, ↓ESC_ix, ↓KESC_var, ↓KESC_ix, ↓HOLD_var, ↓HOLD_ix, ↓BRW_var, ↓BRW_ix, scat_ni, scat_il, scat_inr, List.tail_cons, List.set_cons_zero, List.set_cons_succ, shS_z, shS_s, shD_z, shD_s, item_lst', item_tup', item_scr', atI_lit, a2_add, a2_sub, a2_mul, a2_fdiv, a2_mod, a2_pow, a2_shl, a2_shr, a2_band, a2_bor, a2_lt, a2_le, a2_gt, a2_ge, a2_eqi, a2_nei, a2_max, a2_min, a2_inl, a2_int, a2_nil, a2_nit, a2_ind, a2_nid, a1_not, a1_neg, a1_len, a1_int, a1_intb, a1_str, a1_abs, a1_isN, a1_isNN, a1_isi, len_lst, len_tup, len_scr, len_dic, setD_l, setD_d, mut_app, mut_ext, mut_ins, ixN_lit, it_of, it_oft, it_r1, it_r2, it_r3, it_enu, it_zip, it_rev, ↓W_opT, ↓W_mv, tupD_l, ↓W_opD, ↓W_opS, ↓EK_var, ↓EK_ix, ↓W_mutP, CHP_def, isEmpty_cons', kidsD_one, kidsD_two, updP_one, updP_two, mut_clr, mut_rvs, a1_lset, a1_lsetf, srt_f, srt_l, plain_f, kplain_f, isDicD_f, isiOk_f, ty_f, isNon_f, isLstD_f, vl_f', it_keysf, listD_f, len_f, a2_inf, a2_nif, ↓W_op3, ↓W_comph, ↓W_brw, ↓W_dpop, dicOf_f, OP_lend, lend_nil, unlA_t, unlA_f, unlA_nil, bOk_nil, bOk_cons, FLT_n, FLT_z, FLT_s, flat_int, flat_bl, flat_non, flat_tx, flat_tup, flats_nil, flats_cons, a2_index, a3_getdi, Option.bind_some, it_keys, it_keysl, it_keyst, it_keystx, ↓W_opr, rev_l, rev_map, zip0_map, ds_nil, ds_cons, listD_l, listD_t, bind_t, bind_l, binds_nil, binds_cons, bind_v, List.getElem?_cons_zero, List.getElem?_cons_succ, List.length_cons, List.length_nil, List.contains_nil, List.contains_cons, List.nil_append, List.append_nil, List.cons_append, Bool.and_true, Bool.true_and, Bool.and_false, Bool.false_and, Bool.or_true, Bool.true_or, Bool.or_false, Bool.false_or, Bool.not_true, Bool.not_false, decide_true, decide_false, if_true, if_false, true_and, and_true, ne_eq, not_false_eq_true, not_true_eq_false, false_and, and_false, Option.some.injEq, Option.map_some, reduceCtorEq, reduceIte, Nat.reduceAdd, Nat.reduceLT, Nat.reduceEqDiff, Nat.reduceBEq, Int.reduceLT, Int.reduceLE, Int.reduceEq, Int.reduceAdd, Int.reduceSub, Int.reduceMul, Int.reduceNeg, Int.reducePow, Nat.reducePow, Bool.false_eq_true, Int.reduceToNat, or_true, true_or, or_false, false_or, natAbs_lit, a2_eqb, a2_neb, cast_lit, ↓W_dct, ↓W_callv, fnOf_fn, pairUp_nil, pairUp_cons, keysOk_eq, kdist_nil, kdist_cons, dhas_nil, dhas_cons, keq_int, keq_tx, keyOk_int, keyOk_tx, dget_nil, dget_cons, vals_nil, vals_cons, item_dic, set_dn, set_tx, set_int, ↓newLst_deep, plainsApp, app_map, a1_intt, intT0, intT1, a1_sum, a1_sumd, a2_count, dn_int, plains_dn, scalars_dn, shps_dn, a2_eqld, a2_neld, a1_isBt, a1_isBf, a1_isBn, a1_isBi, a1_isBs, a1_isBl, W_FLnil, W_FLcons, List.any_cons, List.any_nil, a2_eql0, a2_nel0, shps_tx, shps_ints, isEmpty_map, sIx_n, sIx_s, slD_l, slD_t, drop_map, take_map, a2_eqlt, a2_nelt, a2_eqli, a2_neli, Bool.and_eq_true, decide_eq_true_eq, filt_true, atI_map, catD_l, eq_self, true_implies, implies_true, line_def, plains_tx, plains_ints, scalars_tx, scalars_ints, inB_iff, rng_length, Nat.reduceLeDiff, and_self, Nat.reduceMul, List.length_map, List.forall_mem_cons, plain_tx, kplain_tx, scalar_tx, vl_tx, isNon_tx, isDicD_tx, isiOk_tx, ty_tx_str, ty_tx_int, ty_tx_bool, ty_tx_list, ty_tx_tuple, ty_tx_dict, len_tx, item_tx, a2_addt, a2_eqt, a2_net, deq_tx, a2_joine, a2_mult, it_tx, slD_tx, a2_ins, a2_nins, wipes_nil, wipes_cons, back_nil, back_cons, KP_n, KP_d, KP_t, KP_h, KP_s, keepNil, keepCons, shv_d, getD_z, getD_s, Bool.and_self, List.map_cons, List.map_nil, ↓ESC_int, ↓KESC_int, ↓HOLD_int, ↓BRW_int, ↓Wac_int, ↓Wret_int, slI_int, isPl_int, ↓ESC_shv, ↓KESC_shv, ↓HOLD_shv, ↓BRW_shv, ↓Wac_shv, ↓Wret_shv, slI_shv, isPl_shv, ↓ESC_shp, ↓KESC_shp, ↓HOLD_shp, ↓BRW_shp, ↓Wac_shp, ↓Wret_shp, slI_shp, isPl_shp, ↓ESC_str, ↓KESC_str, ↓HOLD_str, ↓BRW_str, ↓Wac_str, ↓Wret_str, slI_str, isPl_str, ↓ESC_bl, ↓KESC_bl, ↓HOLD_bl, ↓BRW_bl, ↓Wac_bl, ↓Wret_bl, slI_bl, isPl_bl, ↓ESC_non, ↓KESC_non, ↓HOLD_non, ↓BRW_non, ↓Wac_non, ↓Wret_non, isPl_non, ↓ESC_glo, ↓KESC_glo, ↓HOLD_glo, ↓BRW_glo, ↓Wac_glo, ↓Wret_glo, slI_glo, isPl_glo, ↓ESC_io, ↓KESC_io, ↓HOLD_io, ↓BRW_io, ↓Wret_io, slI_io, isPl_io, ↓ESC_mv, ↓KESC_mv, ↓HOLD_mv, ↓BRW_mv, ↓Wac_mv, ↓Wret_mv, slI_mv, isPl_mv, ↓ESC_sl, ↓KESC_sl, ↓HOLD_sl, ↓BRW_sl, ↓Wac_sl, ↓Wret_sl, slI_sl, isPl_sl, ↓ESC_op1, ↓KESC_op1, ↓HOLD_op1, ↓BRW_op1, ↓Wac_op1, ↓Wret_op1, slI_op1, isPl_op1, ↓ESC_op2, ↓KESC_op2, ↓HOLD_op2, ↓BRW_op2, ↓Wac_op2, ↓Wret_op2, slI_op2, isPl_op2, ↓ESC_op3, ↓KESC_op3, ↓HOLD_op3, ↓BRW_op3, ↓Wac_op3, ↓Wret_op3, slI_op3, isPl_op3, ↓ESC_getS, ↓KESC_getS, ↓HOLD_getS, ↓BRW_getS, ↓Wac_getS, ↓Wret_getS, slI_getS, isPl_getS, ↓ESC_opP, ↓KESC_opP, ↓HOLD_opP, ↓BRW_opP, ↓Wac_opP, ↓Wret_opP, slI_opP, isPl_opP, ↓ESC_cat, ↓KESC_cat, ↓HOLD_cat, ↓BRW_cat, ↓Wac_cat, ↓Wret_cat, slI_cat, isPl_cat, ↓ESC_catT, ↓KESC_catT, ↓HOLD_catT, ↓BRW_catT, ↓Wac_catT, ↓Wret_catT, slI_catT, isPl_catT, ↓ESC_rep, ↓KESC_rep, ↓HOLD_rep, ↓BRW_rep, ↓Wac_rep, ↓Wret_rep, slI_rep, isPl_rep, ↓ESC_and, ↓KESC_and, ↓HOLD_and, ↓BRW_and, ↓Wac_and, ↓Wret_and, slI_and, isPl_and, ↓ESC_or, ↓KESC_or, ↓HOLD_or, ↓BRW_or, ↓Wac_or, ↓Wret_or, slI_or, isPl_or, ↓ESC_ife, ↓KESC_ife, ↓HOLD_ife, ↓BRW_ife, ↓Wac_ife, ↓Wret_ife, slI_ife, isPl_ife, ↓ESC_tup, ↓KESC_tup, ↓HOLD_tup, ↓BRW_tup, ↓Wac_tup, ↓Wret_tup, slI_tup, isPl_tup, ↓ESC_lst, ↓KESC_lst, ↓HOLD_lst, ↓BRW_lst, ↓Wac_lst, ↓Wret_lst, slI_lst, isPl_lst, ↓ESC_dct0, ↓KESC_dct0, ↓HOLD_dct0, ↓BRW_dct0, ↓Wac_dct0, ↓Wret_dct0, slI_dct0, isPl_dct0, ↓ESC_dct, ↓KESC_dct, ↓HOLD_dct, ↓BRW_dct, ↓Wac_dct, ↓Wret_dct, slI_dct, isPl_dct, ↓ESC_dctT, ↓KESC_dctT, ↓HOLD_dctT, ↓BRW_dctT, ↓Wac_dctT, ↓Wret_dctT, slI_dctT, isPl_dctT, ↓ESC_inG, ↓KESC_inG, ↓HOLD_inG, ↓BRW_inG, ↓Wac_inG, ↓Wret_inG, slI_inG, isPl_inG, ↓ESC_call, ↓KESC_call, ↓HOLD_call, ↓BRW_call, ↓Wac_call, ↓Wret_call, slI_call, isPl_call, ↓ESC_callv, ↓KESC_callv, ↓HOLD_callv, ↓BRW_callv, ↓Wac_callv, ↓Wret_callv, slI_callv, isPl_callv, ↓ESC_mut, ↓KESC_mut, ↓HOLD_mut, ↓BRW_mut, ↓Wac_mut, ↓Wret_mut, slI_mut, isPl_mut, ↓ESC_mutP, ↓KESC_mutP, ↓HOLD_mutP, ↓BRW_mutP, ↓Wac_mutP, ↓Wret_mutP, slI_mutP, isPl_mutP, ↓ESC_clrP, ↓KESC_clrP, ↓HOLD_clrP, ↓BRW_clrP, ↓Wac_clrP, ↓Wret_clrP, slI_clrP, isPl_clrP, ↓ESC_comp, ↓KESC_comp, ↓HOLD_comp, ↓BRW_comp, ↓Wac_comp, ↓Wret_comp, slI_comp, isPl_comp, ↓ESC_comph, ↓KESC_comph, ↓HOLD_comph, ↓BRW_comph, ↓Wac_comph, ↓Wret_comph, slI_comph, isPl_comph, ↓ESC_brw, ↓KESC_brw, ↓HOLD_brw, ↓BRW_brw, ↓Wac_brw, ↓Wret_brw, slI_brw, isPl_brw, ↓ESC_dpop, ↓KESC_dpop, ↓HOLD_dpop, ↓BRW_dpop, ↓Wac_dpop, ↓Wret_dpop, slI_dpop, isPl_dpop, ↓ESC_dupd, ↓KESC_dupd, ↓HOLD_dupd, ↓BRW_dupd, ↓Wac_dupd, ↓Wret_dupd, slI_dupd, isPl_dupd, ↓ESC_anyT, ↓KESC_anyT, ↓HOLD_anyT, ↓BRW_anyT, ↓Wac_anyT, ↓Wret_anyT, slI_anyT, isPl_anyT, ↓ESC_slk, ↓KESC_slk, ↓HOLD_slk, ↓BRW_slk, ↓Wac_slk, ↓Wret_slk, slI_slk, isPl_slk, ↓Wac_var, ↓Wac_ix, ↓Wret_ix, slI_non, slI_var, slI_ix, isPl_var, isPl_ix, root_var, root_ix, plain_non, kpl_non, vl_non, isDicD_non, isNon_non, isLstD_non, down_nond, down_nont, down_nons, scalar_non, isiOk_non, ty_non_int, ty_non_str, ty_non_bool, ty_non_list, ty_non_tuple, ty_non_dict, plain_bl, kpl_bl, vl_bl, isDicD_bl, isNon_bl, isLstD_bl, down_bld, down_blt, down_bls, scalar_bl, isiOk_bl, ty_bl_int, ty_bl_str, ty_bl_bool, ty_bl_list, ty_bl_tuple, ty_bl_dict, plain_int, kpl_int, vl_int, isDicD_int, isNon_int, isLstD_int, down_intd, down_intt, down_ints, scalar_int, isiOk_int, ty_int_int, ty_int_str, ty_int_bool, ty_int_list, ty_int_tuple, ty_int_dict, plain_str, kpl_str, vl_str, isDicD_str, isNon_str, isLstD_str, down_strd, down_strt, down_strs, scalar_str, isiOk_str, ty_str_int, ty_str_str, ty_str_bool, ty_str_list, ty_str_tuple, ty_str_dict, plain_fn, kpl_fn, vl_fn, isDicD_fn, isNon_fn, isLstD_fn, down_fnd, down_fnt, down_fns, scalar_fn, ty_fn_int, ty_fn_str, ty_fn_bool, ty_fn_list, ty_fn_tuple, ty_fn_dict, plain_scr, kpl_scr, vl_scr, isDicD_scr, isNon_scr, isLstD_scr, down_scrd, down_scrt, down_scrs, scalar_scr, ty_scr_int, ty_scr_str, ty_scr_bool, ty_scr_list, ty_scr_tuple, ty_scr_dict, plain_tup, kpl_tup, vl_tup, isDicD_tup, isNon_tup, isLstD_tup, down_tupd, down_tupt, down_tups, scalar_tup, isiOk_tup, ty_tup_int, ty_tup_str, ty_tup_bool, ty_tup_list, ty_tup_tuple, ty_tup_dict, plain_lst, kpl_lst, vl_lst, isDicD_lst, isNon_lst, isLstD_lst, down_lstd, down_lstt, down_lsts, scalar_lst, isiOk_lst, ty_lst_int, ty_lst_str, ty_lst_bool, ty_lst_list, ty_lst_tuple, ty_lst_dict, plain_dic, kpl_dic, vl_dic, isDicD_dic, isNon_dic, isLstD_dic, down_dicd, down_dict, down_dics, scalar_dic, ty_dic_int, ty_dic_str, ty_dic_bool, ty_dic_list, ty_dic_tuple, ty_dic_dict, isiOk_dic, plains_nil, plains_cons, scalars_nil, scalars_cons, kid_deep, kid_top, kid_sh, allDeep_nil, allDeep_deep, allDeep_sh, allDeep_top, mkTup_ite, mkLst_ite, newLst_ite, wr_int, wr_shv, wr_shp, wr_str, wr_bl, wr_non, wr_glo, wr_var, wr_dct0, wr_io, wr_mv, wr_getS, wr_clrP, wr_catT, wr_ix, wr_sl, wr_op1, wr_op2, wr_op3, wr_opP, wr_cat, wr_rep, wr_and, wr_or, wr_tup, wr_lst, wr_call, wrS_skip, wrS_seq, wrS_set, wrS_setIx, wrS_setP, wrS_expr, wrS_ite, wrS_for_, wrS_whl, wrS_ret, wrS_retn, wr_ife, wr_inG, wr_callv, wr_mut, wr_mutP, wr_slk, wr_brw, wr_dpop, wr_comphv, wr_compv, wr_compt, wrs_nil, wrs_cons, wrx_def, tgs_v, tgs_t, S_len, st_, st_20, st_28, st_28292c2030313539, st_28747265652c206e65617229, st_29, st_2c, st_2c20, st_2c206e65617229, st_30, st_30313233343536373839, st_31, st_54726565, st_616e6f74686572, st_62616c6c, st_62617265, st_626f7468, st_626f746828, st_626f7468287472656529, st_6368656170657374, st_656974686572, st_6d616e79, st_6d616e7920, st_6d616e79202035, st_6d616e79202d31, st_6d616e792030, st_6d616e79203035, st_6d616e792034303936, st_6e656172, st_6f6464, st_70616972696e67, st_726f756e64, st_7369646573, st_74726565, st_747265650a, st_9ed719ec24b0, st_abffc981e44a, st_c9905e9462b5, st_cffa957422c7, st_e82b69c6dcff, st_feeb9589fd1b, $ls,*])
local macro_rules | `(tactic| simp! [$ls,*]) => `(tactic| simpa! [$ls,*])
local macro_rules | `(tactic| dsimp! [$ls,*]) => `(tactic| simp_all! [$ls,*])

theorem C_cell_at {n : Nat} {ns : List Int} {k : Int} (h0 : 0 ≤ k) : CL (call tab (n + 1)) g_law_cell_at [(.scr ns, .deep), (.int k, .deep)] fun r os => ∃ z : Int, r = (.int z, .deep) ∧ os = [some (.scr ns, .deep), some (.int k, .deep)] := by
  refine cl_law_cell_at ?_
  unfold s_law_cell_at
  simp! [List.map_cons, List.map_nil]
  refine BR_d (fun h => ?_) (fun h => ?_)
  · simp! []
    refine OP_at h0 h fun _ => ?_
    simp! []
    exact ⟨_, rfl, rfl⟩
  · simp! []
    exact ⟨_, rfl, rfl⟩
theorem C_pool {n : Nat} {ns : List Int} {k : Int} (h0 : 0 ≤ k) (h1 : k < 1000000) : CL (call tab (n + 2)) g_law_pool [(.scr ns, .deep), (.int k, .deep)] fun r os => ∃ a b : Int, r = (.lst [.int a, .int b], .deep) ∧ os = [some (.scr ns, .deep), some (.int k, .deep)] := by
  refine cl_law_pool ?_
  unfold s_law_pool
  simp! [List.map_cons, List.map_nil, List.replicate]
  refine cl (C_cell_at h0) ?_
  rintro _ _ ⟨z, rfl, rfl⟩
  simp! []
  refine ⟨by omega, ?_⟩
  refine BR_d (fun h => ?_) (fun h => ?_)
  · simp! []
    refine ⟨by omega, ?_⟩
    exact ⟨_, _, rfl, rfl⟩
  · simp! []
    refine ⟨by omega, ?_⟩
    exact ⟨_, _, rfl, rfl⟩
theorem C_take {n : Nat} {a b m : Int} (h0 : 0 < m) (h1 : m < 1073741824) : CL (call tab (n + 1)) g_law_take [(.lst [.int a, .int b], .deep), (.int m, .deep)] fun r os => ∃ v a' b' : Int, 0 ≤ v ∧ v < m ∧ r = (.int v, .deep) ∧ os = [some (.lst [.int a', .int b'], .deep), some (.int m, .deep)] := by
  refine cl_law_take ?_
  unfold s_law_take
  simp! [List.map_cons, List.map_nil, List.replicate]
  refine BR_d (fun h => ?_) (fun h => ?_)
  · simp! [h0, h1]
    exact ⟨_, _, _, Int.emod_nonneg _ (by omega), Int.emod_lt_of_pos _ h0, rfl, rfl⟩
  · simp! [h0, h1]
    refine ⟨by omega, ?_⟩
    exact ⟨_, _, _, Int.emod_nonneg _ (by omega), Int.emod_lt_of_pos _ h0, rfl, rfl⟩


abbrev tMany : List Nat := [109, 97, 110, 121]
abbrev tTree : List Nat := [116, 114, 101, 101]
abbrev tBoth : List Nat := [98, 111, 116, 104]
abbrev tEither : List Nat := [101, 105, 116, 104, 101, 114]
abbrev twoT (k : Bool) : List Nat := if k then tBoth else tEither
def plain9 : List (List Nat) := [tTree, [110, 101, 97, 114], [98, 97, 114, 101], [115, 105, 100, 101, 115], [111, 100, 100], [112, 97, 105, 114, 105, 110, 103], [99, 104, 101, 97, 112, 101, 115, 116], [114, 111, 117, 110, 100], [98, 97, 108, 108]]
inductive Sa where
  | w (l : List Nat) | many (m : Int) | two (o : Bool) (a b : Sa)
def saD : Sa → D
  | .w l => .tup [tx l]
  | .many m => .tup [tx tMany, .int m]
  | .two o a b => .tup [tx (twoT o), saD a, saD b]
def Sa.ok : Sa → Prop
  | .w l => l ∈ plain9
  | .many m => 1 ≤ m ∧ m ≤ 4095
  | .two _ a b => a.ok ∧ b.ok
def Sa.dep : Sa → Nat
  | .two _ a b => max a.dep b.dep + 1
  | _ => 0
theorem plain_sa : ∀ s, plain (saD s) = true
  | .w l => rfl
  | .many m => rfl
  | .two o a b => by
    unfold saD
    rw [plain_tup, plains_cons, plains_cons, plains_cons, plains_nil, plain_sa a, plain_sa b]
    rfl
theorem vl_sa {s w} : vl (saD s) w = (saD s, .deep) := vl_t (plain_sa s)
theorem plains_sa {o a b} : plains [tx (twoT o), saD a, saD b] = true := by have := plain_sa (.two o a b); rwa [saD, plain_tup] at this
local macro_rules | `(tactic| simp! [$ls,*]) => `(tactic| simpa! [plain_sa, vl_sa, plains_sa, $ls,*])
local macro_rules | `(tactic| dsimp! [$ls,*]) => `(tactic| simp_all! [plain_sa, vl_sa, plains_sa, $ls,*])

theorem C_law_plain {n : Nat} {a b : Int} : CL (call tab (n + 2)) g_law_plain [(.lst [.int a, .int b], .deep)] fun r os => ∃ s a b, s.ok ∧ s.dep = 0 ∧ r = (saD s, .deep) ∧ os = [some (.lst [.int a, .int b], .deep)] := by
  refine cl_law_plain ?_
  unfold s_law_plain
  simp! []
  refine cl (C_take (by decide) (by decide)) ?_
  rintro _ _ ⟨v, a, b, h0, h1, rfl, rfl⟩
  simp! []
  refine OP_mem h0 (by show v < 10; omega) ?_
  intro x hx
  obtain ⟨l, hl, rfl⟩ | rfl : (∃ l, l ∈ plain9 ∧ x = tx l) ∨ x = tx tMany := by
    simp only [List.mem_cons, List.not_mem_nil, or_false] at hx
    unfold plain9
    rcases hx with rfl | rfl | rfl | rfl | rfl | rfl | rfl | rfl | rfl | rfl
    · exact .inl ⟨_, .head _, rfl⟩
    · exact .inl ⟨_, .tail _ (.head _), rfl⟩
    · exact .inl ⟨_, .tail _ (.tail _ (.head _)), rfl⟩
    · exact .inl ⟨_, .tail _ (.tail _ (.tail _ (.head _))), rfl⟩
    · exact .inl ⟨_, .tail _ (.tail _ (.tail _ (.tail _ (.head _)))), rfl⟩
    · exact .inl ⟨_, .tail _ (.tail _ (.tail _ (.tail _ (.tail _ (.head _))))), rfl⟩
    · exact .inl ⟨_, .tail _ (.tail _ (.tail _ (.tail _ (.tail _ (.tail _ (.head _)))))), rfl⟩
    · exact .inl ⟨_, .tail _ (.tail _ (.tail _ (.tail _ (.tail _ (.tail _ (.tail _ (.head _))))))), rfl⟩
    · exact .inl ⟨_, .tail _ (.tail _ (.tail _ (.tail _ (.tail _ (.tail _ (.tail _ (.tail _ (.head _)))))))), rfl⟩
    · exact .inr rfl
  · simp! []
    refine BR_d (fun h => ?_) (fun _ => ?_)
    · subst h
      exact absurd hl (by decide)
    · simp! []
      exact ⟨.w l, _, _, hl, rfl, rfl, rfl⟩
  · simp! []
    refine cl (C_take (by decide) (by decide)) ?_
    rintro _ _ ⟨v2, a, b, h2, h3, rfl, rfl⟩
    simp! []
    refine OP_mem h2 (by show v2 < 3; omega) ?_
    intro x hx
    obtain ⟨k, k0, k1, rfl⟩ : ∃ k : Int, 0 < k ∧ k ≤ 4095 ∧ x = .int k := by
      simp only [List.mem_cons, List.not_mem_nil, or_false] at hx
      rcases hx with rfl | rfl | rfl
      · exact ⟨_, by decide, by decide, rfl⟩
      · exact ⟨_, by decide, by decide, rfl⟩
      · exact ⟨_, by decide, by decide, rfl⟩
    simp! []
    refine cl (C_take k0 (by omega)) ?_
    rintro _ _ ⟨v3, a, b, h4, h5, rfl, rfl⟩
    simp! []
    exact ⟨.many (1 + v3), _, _, ⟨by omega, by omega⟩, rfl, rfl, rfl⟩
theorem C_law_saying : ∀ (d n : Nat) (a b : Int), CL (call tab (n + d + 3)) g_law_saying [(.lst [.int a, .int b], .deep), (.int (d : Int), .deep)] fun r os => ∃ s a b v, s.ok ∧ s.dep ≤ d ∧ r = (saD s, .deep) ∧ os = [some (.lst [.int a, .int b], .deep), v]
  | 0, n, a, b => by
    refine cl_law_saying ?_
    unfold s_law_saying
    simp! []
    refine cl C_law_plain ?_
    rintro _ _ ⟨s, a, b, h1, h2, rfl, rfl⟩
    simp! []
    exact ⟨s, _, _, _, h1, by omega, rfl, rfl⟩
  | d + 1, n, a, b => by
    rw [show n + (d + 1) + 3 = (n + d + 3) + 1 by omega]
    refine cl_law_saying ?_
    unfold s_law_saying
    simp! []
    refine BR_d (fun h => absurd h (by omega)) (fun _ => ?_)
    simp! []
    refine cl (C_take (by decide) (by decide)) ?_
    rintro _ _ ⟨v, a, b, h0, h1, rfl, rfl⟩
    simp! []
    refine BR_d (fun h => ?_) (fun _ => ?_)
    · simp! []
      refine cl C_law_plain ?_
      rintro _ _ ⟨s, a, b, h1, h2, rfl, rfl⟩
      simp! []
      exact ⟨s, _, _, _, h1, by omega, rfl, rfl⟩
    simp! []
    refine cl (C_take (by decide) (by decide)) ?_
    rintro _ _ ⟨v, a, b, h0, h1, rfl, rfl⟩
    simp! []
    refine OP_mem h0 (by show v < 2; omega) ?_
    intro x hx
    obtain ⟨k, rfl⟩ : ∃ k : Bool, x = tx (twoT k) := by
      simp only [List.mem_cons, List.not_mem_nil, or_false] at hx
      rcases hx with rfl | rfl
      · exact ⟨true, rfl⟩
      · exact ⟨false, rfl⟩
    simp! []
    have ih : ∀ a b, CL (call tab (n + d + 3)) g_law_saying [(.lst [.int a, .int b], .deep), (.int (((d + 1 : Nat) : Int) - 1), .deep)] fun r os => ∃ s a b v, s.ok ∧ s.dep ≤ d ∧ r = (saD s, .deep) ∧ os = [some (.lst [.int a, .int b], .deep), v] := fun a b => by
      rw [show ((d + 1 : Nat) : Int) - 1 = (d : Int) by omega]
      exact C_law_saying d n a b
    refine cl (ih a b) ?_
    rintro _ _ ⟨s, a, b, v1, g1, g2, rfl, rfl⟩
    simp! []
    refine cl (ih a b) ?_
    rintro _ _ ⟨t, a, b, v1, g3, g4, rfl, rfl⟩
    simp! []
    exact ⟨.two k s t, _, _, _, ⟨g1, g3⟩, by unfold Sa.dep; omega, rfl, rfl⟩

local macro_rules | `(tactic| simp! [$ls,*]) => `(tactic| simpa! [$ls,*])
local macro_rules | `(tactic| dsimp! [$ls,*]) => `(tactic| simp_all! [$ls,*])

theorem par_one {c : Nat} : ∀ (l acc : List Nat), TL.par [c] acc l = if c ∈ l then some (acc ++ l.takeWhile (· != c), (l.dropWhile (· != c)).drop 1) else none
  | [], acc => rfl
  | x :: l, acc => by
    have ih := par_one (c := c) l (acc ++ [x])
    have hp : TL.pre [c] (x :: l) = (c == x) := by simp [TL.pre]; exact BEq.comm
    rw [TL.par, hp]
    by_cases h : c = x
    · subst h
      rw [if_pos (by simp), if_pos (by simp)]
      simp
    · have h' : ¬ x = c := fun z => h z.symm
      rw [if_neg (by simp [h]), ih]
      by_cases hm : c ∈ l
      · rw [if_pos hm, if_pos (List.mem_cons_of_mem _ hm)]
        simp [List.takeWhile_cons, List.dropWhile_cons, h', List.append_assoc]
      · rw [if_neg hm, if_neg (by simp [hm, h])]
def befP (l : List Nat) : List Nat := l.takeWhile (· != 40)
def aftP (l : List Nat) : List Nat := (l.dropWhile (· != 40)).drop 1
theorem befP_aft {l : List Nat} (h : 40 ∈ l) : l = befP l ++ 40 :: aftP l := by
  unfold befP aftP
  induction l with
  | nil => cases h
  | cons x l ih =>
    by_cases hx : x = 40
    · subst hx; simp
    · have := ih ((List.mem_cons.mp h).resolve_left fun z => hx z.symm)
      simp only [List.takeWhile_cons, List.dropWhile_cons, bne_iff_ne, ne_eq, hx, not_false_eq_true, if_true]
      simp only [List.cons_append]
      rw [← this]
theorem befP_eq {w r : List Nat} (h : 40 ∉ w) : befP (w ++ 40 :: r) = w ∧ aftP (w ++ 40 :: r) = r := by
  unfold befP aftP
  induction w with
  | nil => simp
  | cons x w ih =>
    have hx : x ≠ 40 := fun z => h (by rw [z]; exact List.mem_cons_self ..)
    obtain ⟨a, b⟩ := ih fun z => h (List.mem_cons_of_mem _ z)
    simp only [List.cons_append, List.takeWhile_cons, List.dropWhile_cons, bne_iff_ne, ne_eq, hx, not_false_eq_true, if_true]
    exact ⟨by rw [a], b⟩
def splP : Int → List Nat → Option Nat
  | _, [] => none
  | d, c :: l => if c = 40 then (splP (d + 1) l).map (· + 1) else if c = 41 then (splP (d - 1) l).map (· + 1) else if c = 44 ∧ d = 0 then some 0 else (splP d l).map (· + 1)
theorem splP_spec : ∀ {l : List Nat} {d : Int} {i : Nat}, splP d l = some i → l[i]? = some 44 ∧ d + ((l.take i).count 40 : Nat) = ((l.take i).count 41 : Nat)
  | [], _, _, h => by cases h
  | c :: l, d, i, h => by
    rw [splP] at h
    split at h
    · rename_i hc
      subst hc
      obtain ⟨j, hj, rfl⟩ := Option.map_eq_some_iff.mp h
      obtain ⟨a, b⟩ := splP_spec hj
      refine ⟨a, ?_⟩
      simp only [List.take_succ_cons, List.count_cons, beq_iff_eq]
      simp
      omega
    · split at h
      · rename_i hc
        subst hc
        obtain ⟨j, hj, rfl⟩ := Option.map_eq_some_iff.mp h
        obtain ⟨a, b⟩ := splP_spec hj
        refine ⟨a, ?_⟩
        simp only [List.take_succ_cons, List.count_cons, beq_iff_eq]
        simp
        omega
      · split at h
        · rename_i h1 h2 h3
          cases h
          obtain ⟨rfl, rfl⟩ := h3
          exact ⟨rfl, rfl⟩
        · rename_i h1 h2 h3
          obtain ⟨j, hj, rfl⟩ := Option.map_eq_some_iff.mp h
          obtain ⟨a, b⟩ := splP_spec hj
          refine ⟨a, ?_⟩
          simp only [List.take_succ_cons, List.count_cons, beq_iff_eq, h1, h2, if_false, Nat.add_zero]
          exact b

def Whl (t : List Nat) : Prop := ∀ (k : Int) (u : List Nat), 0 ≤ k → splP k (t ++ u) = (splP k u).map (t.length + ·)
theorem omap_add {o : Option Nat} {a : Nat} : (o.map (a + ·)).map (· + 1) = o.map ((a + 1) + ·) := by
  cases o with
  | none => rfl
  | some x => show some (a + x + 1) = some (a + 1 + x); congr 1; omega
theorem Whl.app {a b : List Nat} (ha : Whl a) (hb : Whl b) : Whl (a ++ b) := fun k u hk => by
  rw [List.append_assoc, ha k _ hk, hb k u hk, List.length_append]
  cases splP k u with
  | none => rfl
  | some x => show some (a.length + (b.length + x)) = some (a.length + b.length + x); congr 1; omega
theorem Whl.flat {t : List Nat} (h : ∀ c ∈ t, c ≠ 40 ∧ c ≠ 41 ∧ c ≠ 44) : Whl t := by
  intro k u hk
  induction t with
  | nil =>
    show splP k u = _
    cases splP k u with
    | none => rfl
    | some x => show some x = some (0 + x); congr 1; omega
  | cons c t ih =>
    obtain ⟨h1, h2, h3⟩ := h c (List.mem_cons_self ..)
    rw [List.cons_append, splP, if_neg h1, if_neg h2, if_neg (fun z => h3 z.1), ih fun x hx => h x (List.mem_cons_of_mem _ hx), omap_add]
    rfl
theorem splP_40 {d : Int} {l : List Nat} : splP d (40 :: l) = (splP (d + 1) l).map (· + 1) := by rw [splP, if_pos rfl]
theorem splP_41 {d : Int} {l : List Nat} : splP d (41 :: l) = (splP (d - 1) l).map (· + 1) := by rw [splP, if_neg (by decide), if_pos rfl]
theorem splP_44 {d : Int} {l : List Nat} (h : d ≠ 0) : splP d (44 :: l) = (splP d l).map (· + 1) := by rw [splP, if_neg (by decide), if_neg (by decide), if_neg (fun z => h z.2)]
theorem splP_c {d : Int} {l : List Nat} {c : Nat} (h1 : c ≠ 40) (h2 : c ≠ 41) (h3 : c ≠ 44) : splP d (c :: l) = (splP d l).map (· + 1) := by rw [splP, if_neg h1, if_neg h2, if_neg (fun z => h3 z.1)]
theorem Whl.two {w a b : List Nat} (hw : Whl w) (ha : Whl a) (hb : Whl b) : Whl (w ++ (40 :: (a ++ (44 :: 32 :: (b ++ [41]))))) := by
  refine hw.app fun k u hk => ?_
  have e : (40 :: (a ++ (44 :: 32 :: (b ++ [41])))) ++ u = 40 :: (a ++ (44 :: 32 :: (b ++ (41 :: u)))) := by simp
  rw [e, splP_40, ha (k + 1) _ (by omega), splP_44 (by omega), splP_c (by decide) (by decide) (by decide), hb (k + 1) _ (by omega), splP_41, show k + 1 - 1 = k by omega]
  cases splP k u with
  | none => rfl
  | some x =>
    show some _ = some _
    congr 1
    simp only [List.length_cons, List.length_append, List.length_nil]
    omega

abbrev tMany5 : List Nat := [109, 97, 110, 121, 32]
def numOK (t : List Nat) : Bool := decide (1 ≤ t.length) && decide (t.length ≤ 4) && !decide (t.head? = some 48) && t.all fun c => decide (48 ≤ c) && decide (c ≤ 57)
def numV (t : List Nat) : Nat := NumText.digitsVal t
def manyR (t : List Nat) : Option Sa := if numOK t = true ∧ numV t ≤ 4095 then some (.many (numV t)) else none
def joinR (f : List Nat → Option Sa) (t : List Nat) : Option Sa :=
  if 40 ∈ t ∧ (befP t = tBoth ∨ befP t = tEither) ∧ (aftP t).getLast? = some 41 then
    match splP 0 (aftP t).dropLast with
    | none => none
    | some i => if ((aftP t).dropLast.drop i).take 2 = [44, 32] then
        match f ((aftP t).dropLast.take i), f ((aftP t).dropLast.drop (i + 2)) with
        | some a, some b => some (.two (decide (befP t = tBoth)) a b)
        | _, _ => none
      else none
  else none
def rdP : Nat → List Nat → Option Sa
  | 0, t => if t ∈ plain9 then some (.w t) else if t.take 5 = tMany5 then manyR (t.drop 5) else none
  | d + 1, t => if t ∈ plain9 then some (.w t) else if t.take 5 = tMany5 then manyR (t.drop 5) else joinR (rdP d) t
def rdD : Option Sa → D
  | none => .non
  | some s => saD s
theorem twoT_40 {o : Bool} : 40 ∉ twoT o := by cases o <;> decide
theorem twoT_dec {o : Bool} : decide (twoT o = tBoth) = o := by cases o <;> decide
theorem joinR_form {f : List Nat → Option Sa} {o : Bool} {r : List Nat} : joinR f (twoT o ++ 40 :: (r ++ [41])) = match splP 0 r with
    | none => none
    | some i => if (r.drop i).take 2 = [44, 32] then
        match f (r.take i), f (r.drop (i + 2)) with
        | some a, some b => some (.two o a b)
        | _, _ => none
      else none := by
  obtain ⟨e1, e2⟩ := befP_eq (r := r ++ [41]) (twoT_40 (o := o))
  unfold joinR
  rw [e1, e2, if_pos ⟨by simp, by cases o <;> simp, by simp⟩, List.dropLast_concat, twoT_dec]
theorem joinR_some {f : List Nat → Option Sa} {t : List Nat} {s : Sa} (h : joinR f t = some s) : ∃ o r, t = twoT o ++ 40 :: (r ++ [41]) := by
  unfold joinR at h
  split at h
  · rename_i hc
    obtain ⟨h1, h2, h3⟩ := hc
    obtain ⟨r, hr⟩ : ∃ r, aftP t = r ++ [41] := List.getLast?_eq_some_iff.mp h3
    have e := befP_aft h1
    rcases h2 with z | z
    · exact ⟨true, r, by rw [e, z, hr]; rfl⟩
    · exact ⟨false, r, by rw [e, z, hr]; rfl⟩
  · cases h
theorem split_at {r : List Nat} {i : Nat} (h : (r.drop i).take 2 = [44, 32]) : r = r.take i ++ (44 :: 32 :: r.drop (i + 2)) := by
  have h1 : r.drop i = [44, 32] ++ r.drop (i + 2) := by
    rw [← h, ← List.drop_drop, List.take_append_drop]
  calc r = r.take i ++ r.drop i := (List.take_append_drop i r).symm
    _ = _ := by rw [h1]; rfl
theorem plain9_flat {l : List Nat} (h : l ∈ plain9) : ∀ c ∈ l, c ≠ 40 ∧ c ≠ 41 ∧ c ≠ 44 := by
  have : ∀ l ∈ plain9, ∀ c ∈ l, c ≠ 40 ∧ c ≠ 41 ∧ c ≠ 44 := by decide
  exact this l h
theorem many_flat {t : List Nat} (h1 : t.take 5 = tMany5) (h2 : numOK (t.drop 5) = true) : ∀ c ∈ t, c ≠ 40 ∧ c ≠ 41 ∧ c ≠ 44 := by
  intro c hc
  have e : t = tMany5 ++ t.drop 5 := by rw [← h1, List.take_append_drop]
  rw [e] at hc
  rcases List.mem_append.mp hc with hc | hc
  · have : ∀ c ∈ tMany5, c ≠ 40 ∧ c ≠ 41 ∧ c ≠ 44 := by decide
    exact this c hc
  · unfold numOK at h2
    rw [Bool.and_eq_true] at h2
    have := List.all_eq_true.mp h2.2 c hc
    rw [Bool.and_eq_true, decide_eq_true_eq, decide_eq_true_eq] at this
    omega
theorem rdP_whl : ∀ {d : Nat} {t : List Nat} {s : Sa}, rdP d t = some s → Whl t := by
  have base : ∀ {t : List Nat} {s : Sa} {o : Option Sa}, (if t ∈ plain9 then some (Sa.w t) else if t.take 5 = tMany5 then manyR (t.drop 5) else o) = some s → Whl t ∨ o = some s := fun {t s o} h => by
    split at h
    · rename_i hp
      exact .inl (.flat (plain9_flat hp))
    · split at h
      · rename_i hm
        unfold manyR at h
        split at h
        · rename_i hn
          exact .inl (.flat (many_flat hm hn.1))
        · cases h
      · exact .inr h
  intro d
  induction d with
  | zero =>
    intro t s h
    rw [rdP] at h
    rcases base h with z | z
    · exact z
    · cases z
  | succ d ih =>
    intro t s h
    rw [rdP] at h
    rcases base h with z | z
    · exact z
    · obtain ⟨o, r, rfl⟩ := joinR_some z
      rw [joinR_form] at z
      split at z
      · cases z
      · rename_i i hi
        split at z
        · rename_i h2
          split at z
          · rename_i a b ha hb
            have := Whl.two (w := twoT o) (.flat (by cases o <;> decide)) (ih ha) (ih hb)
            rw [split_at h2]
            simpa using this
          · cases z
        · cases z
theorem splP_whl {a r : List Nat} (h : Whl a) : splP 0 (a ++ (44 :: r)) = some a.length := by
  rw [h 0 _ (by decide), splP, if_neg (by decide), if_neg (by decide), if_pos ⟨rfl, rfl⟩]
  rfl

theorem joinR_at {d : Nat} {o : Bool} {r : List Nat} {i : Nat} {a b : Sa} (h : (r.drop i).take 2 = [44, 32]) (ha : rdP d (r.take i) = some a) (hb : rdP d (r.drop (i + 2)) = some b) : joinR (rdP d) (twoT o ++ 40 :: (r ++ [41])) = some (.two o a b) := by
  have hw := rdP_whl ha
  have hil : i < r.length := by
    refine Classical.byContradiction fun z => ?_
    rw [List.drop_eq_nil_of_le (by omega)] at h
    cases h
  have hs : splP 0 r = some i := by
    have := splP_whl (r := 32 :: r.drop (i + 2)) hw
    rw [← split_at h, List.length_take, Nat.min_eq_left (by omega)] at this
    exact this
  rw [joinR_form, hs]
  simp only
  rw [if_pos h, ha, hb]
theorem joinR_find {f : List Nat → Option Sa} {o : Bool} {r : List Nat} {s : Sa} (h : joinR f (twoT o ++ 40 :: (r ++ [41])) = some s) : ∃ i a b, i < r.length ∧ (r.drop i).take 2 = [44, 32] ∧ (r.take i).count 40 = (r.take i).count 41 ∧ f (r.take i) = some a ∧ f (r.drop (i + 2)) = some b := by
  rw [joinR_form] at h
  split at h
  · cases h
  · rename_i i hi
    split at h
    · rename_i h2
      split at h
      · rename_i a b ha hb
        obtain ⟨e1, e2⟩ := splP_spec hi
        have hil := (List.getElem?_eq_some_iff.mp e1).1
        exact ⟨i, a, b, hil, h2, by omega, ha, hb⟩
      · cases h
    · cases h


theorem take_sucT {α : Type} {l : List α} {j : Nat} (h : j < l.length) : l.take (j + 1) = l.take j ++ [l[j]] := by
  rw [List.take_add_one, List.getElem?_eq_getElem h]
  rfl
theorem cntR (c : Nat) : ∀ l : List Nat, PyProof.Rows.cnt c l = (l.count c : Nat)
  | [] => rfl
  | n :: r => by
    rw [PyProof.Rows.cnt_cons, cntR c r, List.count_cons]
    by_cases h : n = c
    · simp [h]; omega
    · simp [h]
theorem countIn_l (c : Nat) (l : List Nat) : Txt.count (S l) ⟨#[c]⟩ = (l.count c : Nat) := by
  rw [PyProof.Rows.count_cnt]
  exact cntR c l
theorem a1_cnt40 {l : List Nat} : app1 (.cntS "(") (tx l) = some (.int (l.count 40 : Nat)) := by
  show some (D.int (Txt.count (S l) "(")) = _
  rw [show ("(" : Str) = ⟨#[40]⟩ by decide +kernel, countIn_l]
theorem a1_cnt41 {l : List Nat} : app1 (.cntS ")") (tx l) = some (.int (l.count 41 : Nat)) := by
  show some (D.int (Txt.count (S l) ")")) = _
  rw [show (")" : Str) = ⟨#[41]⟩ by decide +kernel, countIn_l]
theorem a1_starts5 {l : List Nat} : app1 (.starts "many ") (tx l) = some (.bl (decide (l.take 5 = tMany5))) := by
  show some (D.bl (Txt.startswith (S l) "many ")) = _
  rw [show ("many " : Str) = S tMany5 by decide +kernel]
  congr 2
  unfold Txt.startswith
  rw [StrLaws.subAt_eq, S_len]
  show (decide (0 + 5 ≤ l.length) && ((l.drop 0).take 5 == tMany5)) = _
  rw [List.drop_zero]
  by_cases h : l.take 5 = tMany5
  · have : 5 ≤ l.length := by
      have := congrArg List.length h
      rw [List.length_take] at this
      have e : tMany5.length = 5 := rfl
      omega
    rw [h]
    simp [this]
  · simp [h]
def okT (t : List Nat) : Prop := ∀ c ∈ t, c < 128
theorem okT.sub {t u : List Nat} (h : okT t) (hs : ∀ c ∈ u, c ∈ t) : okT u := fun c hc => h c (hs c hc)
theorem okT.app {t u : List Nat} (h : okT t) (g : okT u) : okT (t ++ u) := fun c hc => (List.mem_append.mp hc).elim (h c) (g c)
theorem strOk_128 {t : List Nat} (h : okT t) : PyData.strOk (S t) = true := by
  rw [strOk_iff]
  intro c hc
  have hc : c < 128 := h c (by simpa using hc)
  have : ∀ c, c < 128 → PyData.strOk ⟨#[c]⟩ = true := by decide +kernel
  have h1 : c < 1114112 := by omega
  exact h1
theorem strLn_S {l : List Nat} (h : okT l) (hl : l.length ≤ line) : strLn (S l) = true := by
  unfold strLn
  rw [strOk_128 h, S_len, decide_eq_true hl]
  rfl
theorem prtn_40 {l : List Nat} (hl : l.length ≤ line) (hk : okT l) : prtnD "(" (tx l) = some (.tup (if 40 ∈ l then [tx (befP l), tx [40], tx (aftP l)] else [tx l, tx [], tx []])) := by
  have e0 : ("(" : Str) = S [40] := by decide +kernel
  rw [e0]
  show (if _ then _ else none) = _
  have hn : strLn (S []) = true := strLn_S (fun c hc => by cases hc) (by show 0 ≤ 16777216; decide)
  have h4 : strLn (S [40]) = true := strLn_S (by unfold okT; decide) (by show 1 ≤ 16777216; decide)
  by_cases h : 40 ∈ l
  · have e := SX.partition_some (a := l) (b := [40]) (p := befP l) (q := aftP l) (by decide) (by rw [par_one, if_pos h]; rfl)
    have hs := befP_aft h
    have m1 : ∀ c ∈ befP l, c ∈ l := fun c hc => by rw [hs]; exact List.mem_append_left _ hc
    have m2 : ∀ c ∈ aftP l, c ∈ l := fun c hc => by rw [hs]; exact List.mem_append_right _ (List.mem_cons_of_mem _ hc)
    have l1 : (befP l).length + (aftP l).length + 1 = l.length := by
      have := congrArg List.length hs
      rw [List.length_append, List.length_cons] at this
      omega
    rw [e, if_pos h, if_pos ⟨by rw [S_len]; rfl, by rw [S_len]; exact hl, strLn_S (hk.sub m1) (by omega), h4, strLn_S (hk.sub m2) (by omega)⟩]
    rfl
  · have e := SX.partition_none (a := l) (b := [40]) (by decide) (by rw [par_one, if_neg h])
    rw [e, if_neg h, if_pos ⟨by rw [S_len]; rfl, by rw [S_len]; exact hl, strLn_S hk hl, hn, hn⟩]
    rfl
theorem isN_rd {o : Option Sa} : isNon (rdD o) = o.isNone := by
  cases o with
  | none => rfl
  | some s => cases s <;> rfl
theorem isN_sa {s : Sa} : isNon (saD s) = false := by cases s <;> rfl
theorem sgl {a b : Nat} : ([a] = [b]) = (a = b) := by simp
theorem W_enuS {Φ : Phi} {w es E P} : W.IT Φ .enuS w es E P ↔ W.EVi Φ w es E fun xs E1 => OP (items .enuS (ds xs)) fun its => P its E1 := Iff.rfl
theorem it_enuS {l : List Nat} : items .enuS [tx l] = some ((l.zipIdx 0).map fun p => .tup [.int (p.2 : Nat), tx [p.1]]) := by
  show some (enum0 0 (chars (S l))) = _
  have : chars (S l) = l.map fun c => tx [c] := rfl
  rw [this, enum0_map]
local macro_rules | `(tactic| simp! [$ls,*]) => `(tactic| simpa! [plain_sa, vl_sa, plains_sa, a1_cnt40, a1_cnt41, a1_starts5, prtn_40, isN_rd, W_enuS, it_enuS, $ls,*])
local macro_rules | `(tactic| dsimp! [$ls,*]) => `(tactic| simp_all! [plain_sa, vl_sa, plains_sa, a1_cnt40, a1_cnt41, a1_starts5, prtn_40, isN_rd, W_enuS, it_enuS, $ls,*])

theorem C_split_place {n : Nat} {t : List Nat} (hl : t.length ≤ 20000) : CL (call tab (n + 1)) g_split_place [(tx t, .deep)] fun r os => r = ((match splP 0 t with | none => D.non | some i => .int (i : Int)), .deep) := by
  refine cl_split_place ?_
  unfold s_split_place
  simp! []
  refine FL_ix (fun j E => ∃ (k : Int) (o2 o3 : Option Val), splP 0 t = (splP k (t.drop j)).map (j + ·) ∧ E = [some (tx t, .deep), some (.int k, .deep), o2, o3]) ⟨0, _, _, by rw [List.drop_zero]; cases splP 0 t <;> simp, rfl⟩ ?_ ?_
  · rintro j _ hj ⟨k, o2, o3, hk, rfl⟩
    have hj' : j < t.length := by simpa using hj
    have hd : t.drop j = t[j] :: t.drop (j + 1) := List.drop_eq_getElem_cons hj'
    rw [hd] at hk
    have hsh : ∀ o : Option Nat, (o.map (· + 1)).map (j + ·) = o.map (j + 1 + ·) := fun o => by
      cases o with
      | none => rfl
      | some x => show some (j + (x + 1)) = some (j + 1 + x); congr 1; omega
    simp! [List.getElem_map, List.getElem_zipIdx, Nat.zero_add]
    generalize t[j] = c at hk ⊢
    by_cases h1 : c = 40
    · subst h1
      rw [splP_40, hsh] at hk
      simp! []
      exact ⟨_, _, _, hk, rfl⟩
    · by_cases h2 : c = 41
      · subst h2
        rw [splP_41, hsh] at hk
        simp! [sgl, Nat.reduceEqDiff]
        exact ⟨_, _, _, hk, rfl⟩
      · by_cases h3 : c = 44
        · subst h3
          simp! [sgl, Nat.reduceEqDiff]
          refine BR_d (fun h => ?_) fun h => ?_
          · subst h
            simp! []
            rw [splP, if_neg (by decide), if_neg (by decide), if_pos ⟨rfl, rfl⟩] at hk
            rw [hk]
            rfl
          · rw [splP_44 h, hsh] at hk
            simp! []
            exact ⟨_, _, _, hk, rfl⟩
        · rw [splP_c h1 h2 h3, hsh] at hk
          simp! [sgl, h1, h2, h3]
          exact ⟨_, _, _, hk, rfl⟩
  · rintro _ ⟨k, o2, o3, hk, rfl⟩
    simp! []
    rw [List.drop_eq_nil_of_le (by simp)] at hk
    rw [hk]
    rfl
theorem int_num4 {t : List Nat} (h : numOK t = true) : app1 .int (tx t) = some (.int (numV t : Nat)) := by
  unfold numOK at h
  simp only [Bool.and_eq_true, decide_eq_true_eq] at h
  obtain ⟨⟨⟨h1, h2⟩, _⟩, h3⟩ := h
  rw [a1_intt, if_pos (by omega), SX.int_S h3 (fun z => by rw [z] at h1; cases h1) (by omega)]
  rfl
theorem int_num5 {t : List Nat} (h : numOK t = true) : PySem.intText? (S t) = some ((numV t : Nat) : Int) := by
  unfold numOK at h
  simp only [Bool.and_eq_true, decide_eq_true_eq] at h
  obtain ⟨⟨⟨h1, h2⟩, _⟩, h3⟩ := h
  exact SX.int_S h3 (fun z => by rw [z] at h1; cases h1) (by omega)
theorem digit_in {c : Nat} : decide (c ∈ [48, 49, 50, 51, 52, 53, 54, 55, 56, 57]) = (decide (48 ≤ c) && decide (c ≤ 57)) := by
  rw [Bool.eq_iff_iff, Bool.and_eq_true, decide_eq_true_eq, decide_eq_true_eq, decide_eq_true_eq]
  simp only [List.mem_cons, List.not_mem_nil, or_false]
  omega
theorem C_many_in {n : Nat} {t : List Nat} (hl : t.length ≤ 20000) : CL (call tab (n + 1)) g_many_in [(tx t, .deep)] fun r os => r = (rdD (manyR t), .deep) := by
  refine cl_many_in ?_
  unfold s_many_in
  have hno : numOK t = false → manyR t = none := fun h => by unfold manyR; rw [if_neg fun z => by rw [h] at z; exact absurd z.1 (by decide)]
  by_cases h0 : t.length = 0
  · obtain rfl := List.length_eq_zero_iff.mp h0
    simp! []
    rfl
  by_cases h4 : 4 < t.length
  · simp! [show (1 : Int) ≤ (t.length : Int) by omega, show ¬ (t.length : Int) ≤ 4 by omega]
    rw [hno (by unfold numOK; rw [decide_eq_false (show ¬ t.length ≤ 4 by omega)]; simp)]
    rfl
  obtain ⟨c, r, rfl⟩ : ∃ c r, t = c :: r := by
    cases t with
    | nil => exact absurd rfl h0
    | cons c r => exact ⟨c, r, rfl⟩
  have hc4 : (c :: r).length ≤ 4 := by omega
  have h1 : 1 ≤ (c :: r).length := by omega
  have hlen : (c :: r).length = r.length + 1 := rfl
  simp! [show (1 : Int) ≤ ((r.length + 1 : Nat) : Int) by omega, show ((r.length + 1 : Nat) : Int) ≤ 4 by omega]
  by_cases h48 : c = 48
  · subst h48
    simp! [sgl, Nat.reduceEqDiff]
    rw [hno (by unfold numOK; simp)]
    rfl
  have h48' : (c :: r).head? ≠ some 48 := fun z => h48 (Option.some.inj z)
  rw [decide_eq_false (show ¬ [c] = [48] by simp [h48])]
  clear hlen h0
  generalize c :: r = T at *
  simp! []
  refine FL_ix (fun j E => ∃ o1, (∀ x ∈ T.take j, (decide (48 ≤ x) && decide (x ≤ 57)) = true) ∧ E = [some (tx T, .deep), o1]) ⟨_, fun x hx => by simp at hx, rfl⟩ ?_ ?_
  · rintro j _ hj ⟨o1, hd, rfl⟩
    have hj' : j < T.length := by simpa using hj
    have htk := take_sucT hj'
    have hmem : T[j] ∈ T := List.getElem_mem hj'
    rw [List.getElem_map]
    generalize T[j] = x at htk hmem ⊢
    simp! [digit_in]
    refine BR_b (b := !(decide (48 ≤ x) && decide (x ≤ 57))) (fun h => ?_) fun h => ?_
    · simp! []
      rw [hno (by
        cases hn : numOK T with
        | false => rfl
        | true =>
          unfold numOK at hn
          rw [Bool.and_eq_true] at hn
          rw [List.all_eq_true.mp hn.2 x hmem] at h
          cases h)]
      rfl
    · simp! []
      refine ⟨_, fun y hy => ?_, rfl⟩
      rw [htk] at hy
      have hy2 : (decide (48 ≤ y) && decide (y ≤ 57)) = true := by
        rcases List.mem_append.mp hy with hy | hy
        · exact hd y hy
        · rw [List.mem_singleton.mp hy]
          simpa using h
      simpa using hy2
  · rintro _ ⟨o1, hd, rfl⟩
    have hok : numOK T = true := by
      unfold numOK
      rw [decide_eq_true h1, decide_eq_true hc4, List.all_eq_true.mpr fun x hx => hd x (by simpa using hx)]
      simp [h48']
    have hi := int_num4 hok
    simp! [hi]
    refine BR_d (fun h => ?_) fun h => ?_
    · simp! []
      unfold manyR
      rw [if_neg fun z => by omega]
      rfl
    · simp! [hi]
      unfold manyR
      rw [if_pos ⟨hok, by omega⟩]
      rfl
theorem in9 {t : List Nat} : (S t == ("tree" : Str) || (S t == ("near" : Str) || (S t == ("bare" : Str) || (S t == ("sides" : Str) || (S t == ("odd" : Str) || (S t == ("pairing" : Str) || (S t == ("cheapest" : Str) || (S t == ("round" : Str) || S t == ("ball" : Str))))))))) = decide (t ∈ plain9) := by
  rw [show ("tree" : Str) = S [116, 114, 101, 101] by decide +kernel, show ("near" : Str) = S [110, 101, 97, 114] by decide +kernel, show ("bare" : Str) = S [98, 97, 114, 101] by decide +kernel, show ("sides" : Str) = S [115, 105, 100, 101, 115] by decide +kernel, show ("odd" : Str) = S [111, 100, 100] by decide +kernel, show ("pairing" : Str) = S [112, 97, 105, 114, 105, 110, 103] by decide +kernel, show ("cheapest" : Str) = S [99, 104, 101, 97, 112, 101, 115, 116] by decide +kernel, show ("round" : Str) = S [114, 111, 117, 110, 100] by decide +kernel, show ("ball" : Str) = S [98, 97, 108, 108] by decide +kernel]
  simp only [SX.S_beq_eq]
  unfold plain9
  simp [List.mem_cons]
theorem in2 {t : List Nat} : (S t == ("both" : Str) || S t == ("either" : Str)) = decide (t = tBoth ∨ t = tEither) := by
  rw [show ("both" : Str) = S tBoth by decide +kernel, show ("either" : Str) = S tEither by decide +kernel]
  simp only [SX.S_beq_eq]
  simp
theorem drop_minT {t : List Nat} {k : Nat} : List.take (t.length - min k t.length) (List.drop (min k t.length) t) = t.drop k := by
  rw [List.take_of_length_le (by rw [List.length_drop]; exact Nat.le_refl _)]
  by_cases h : k ≤ t.length
  · rw [Nat.min_eq_left h]
  · rw [Nat.min_eq_right (by omega), List.drop_length, List.drop_eq_nil_of_le (by omega)]
theorem last_dec {r : List Nat} : decide (List.take (r.length - (-1 + (r.length : Int)).toNat) (List.drop (-1 + (r.length : Int)).toNat r) = [41]) = decide (r.getLast? = some 41) := by
  rw [List.take_of_length_le (by rw [List.length_drop]; exact Nat.le_refl _)]
  refine decide_eq_decide.mpr ⟨fun h => ?_, fun h => ?_⟩
  · rw [← List.take_append_drop (-1 + (r.length : Int)).toNat r, h, List.getLast?_concat]
  · obtain ⟨q, rfl⟩ := List.getLast?_eq_some_iff.mp h
    have e : (-1 + ((q ++ [41]).length : Int)).toNat = q.length := by rw [List.length_append, List.length_singleton]; omega
    rw [e, List.drop_left]
theorem init_T {r : List Nat} : List.take ((-1 + (r.length : Int)).toNat - 0) (List.drop 0 r) = r.dropLast := by
  rw [List.drop_zero, List.dropLast_eq_take]
  congr 1
  omega
theorem sl_at2 {r : List Nat} {i : Nat} (h : i < r.length) : List.take ((if (i : Int) + 2 < 0 then ((i : Int) + 2 + (r.length : Int)).toNat else min ((i : Int) + 2).toNat r.length) - if (i : Int) < 0 then ((i : Int) + (r.length : Int)).toNat else min (i : Int).toNat r.length) (List.drop (if (i : Int) < 0 then ((i : Int) + (r.length : Int)).toNat else min (i : Int).toNat r.length) r) = (r.drop i).take 2 := by
  rw [if_neg (by omega), if_neg (by omega), show min (i : Int).toNat r.length = i by omega]
  by_cases h2 : i + 2 ≤ r.length
  · rw [show min ((i : Int) + 2).toNat r.length - i = 2 by omega]
  · rw [List.take_of_length_le (by rw [List.length_drop]; omega), List.take_of_length_le (by rw [List.length_drop]; omega)]
theorem sl_to {r : List Nat} {i : Nat} (h : i ≤ r.length) : List.take ((if (i : Int) < 0 then ((i : Int) + (r.length : Int)).toNat else min (i : Int).toNat r.length) - 0) (List.drop 0 r) = r.take i := by
  rw [if_neg (by omega), show min (i : Int).toNat r.length - 0 = i by omega, List.drop_zero]
theorem sl_from2 {r : List Nat} {i : Nat} : List.take (r.length - if (i : Int) + 2 < 0 then ((i : Int) + 2 + (r.length : Int)).toNat else min ((i : Int) + 2).toNat r.length) (List.drop (if (i : Int) + 2 < 0 then ((i : Int) + 2 + (r.length : Int)).toNat else min ((i : Int) + 2).toNat r.length) r) = r.drop (i + 2) := by
  rw [if_neg (by omega), show ((i : Int) + 2).toNat = i + 2 by omega, drop_minT]
theorem C_joined0 {n : Nat} {t : List Nat} (hl : t.length ≤ 20000) (hk : okT t) : CL (call tab (n + 1)) g_joined_in [(tx t, .deep), (.int 0, .deep)] fun r os => r = (.non, .deep) := by
  refine cl_joined_in ?_
  unfold s_joined_in
  simp! []
  refine OP_of (prtn_40 (by show _ ≤ 16777216; omega) hk) ?_
  by_cases h40 : 40 ∈ t
  · rw [if_pos h40]
    simp! []
    refine OP_of (congrArg (fun b => some (!b)) in2) ?_
    refine BR_b (fun h => ?_) fun h => ?_
    · simp! []
    · simp! []
  · rw [if_neg h40]
    simp! []
theorem C_joined {n d : Nat} {t : List Nat} (hl : t.length ≤ 20000) (hk : okT t) (ih : ∀ u : List Nat, u.length ≤ 20000 → okT u → CL (call tab n) g_saying_in [(tx u, .deep), (.int (d : Int), .deep)] fun r os => r = (rdD (rdP d u), .deep)) (hn : ∃ m, n = m + 1) : CL (call tab (n + 1)) g_joined_in [(tx t, .deep), (.int ((d + 1 : Nat) : Int), .deep)] fun r os => r = (rdD (joinR (rdP d) t), .deep) := by
  obtain ⟨m, rfl⟩ := hn
  obtain ⟨RES, hR⟩ : ∃ X, X = joinR (rdP d) t := ⟨_, rfl⟩
  rw [← hR]
  unfold joinR at hR
  refine cl_joined_in ?_
  unfold s_joined_in
  simp! []
  refine OP_of (prtn_40 (by show _ ≤ 16777216; omega) hk) ?_
  by_cases h40 : 40 ∈ t
  · rw [if_pos h40]
    simp! []
    refine OP_of (congrArg (fun b => some (!b)) in2) ?_
    by_cases h2 : befP t = tBoth ∨ befP t = tEither
    · rw [decide_eq_true h2]
      simp! [show ¬ ((d + 1 : Nat) : Int) = 0 by omega, last_dec]
      by_cases hL : (aftP t).getLast? = some 41
      · simp! [hL]
        rw [if_pos ⟨h40, h2, hL⟩] at hR
        have hrl : (aftP t).dropLast.length ≤ 20000 := by
          have e := congrArg List.length (befP_aft h40)
          rw [List.length_append, List.length_cons] at e
          rw [List.length_dropLast]
          omega
        have hrk : okT (aftP t).dropLast := hk.sub fun c hc => by
          rw [befP_aft h40]
          exact List.mem_append_right _ (List.mem_cons_of_mem _ (List.dropLast_subset _ hc))
        simp! [init_T]
        have c3 := C_split_place (n := m) hrl
        cases hs : splP 0 (aftP t).dropLast with
        | none =>
          rw [hs] at c3 hR
          refine cl c3 ?_
          rintro _ _ rfl
          simp! []
          rw [hR]
          rfl
        | some i =>
          rw [hs] at c3 hR
          refine cl c3 ?_
          rintro _ _ rfl
          have hi := (List.getElem?_eq_some_iff.mp (splP_spec hs).1).1
          simp! [init_T]
          generalize (aftP t).dropLast = r at hrl hrk hs hi hR ⊢
          have hR : RES = if (r.drop i).take 2 = [44, 32] then match rdP d (r.take i), rdP d (r.drop (i + 2)) with
            | some a, some b => some (Sa.two (decide (befP t = tBoth)) a b)
            | _, _ => none
            else none := hR
          simp! [sl_at2 hi]
          by_cases h32 : (r.drop i).take 2 = [44, 32]
          · simp! [h32, sl_to (Nat.le_of_lt hi)]
            rw [if_pos h32] at hR
            have ia := ih (r.take i) (by rw [List.length_take]; omega) (hrk.sub fun c hc => List.mem_of_mem_take hc)
            have ib := ih (r.drop (i + 2)) (by rw [List.length_drop]; omega) (hrk.sub fun c hc => List.mem_of_mem_drop hc)
            have ed : ((d + 1 : Nat) : Int) - 1 = (d : Int) := by omega
            generalize rdP d (r.take i) = oa at ia hR
            generalize rdP d (r.drop (i + 2)) = ob at ib hR
            rw [ed]
            refine cl ia ?_
            rintro _ _ rfl
            simp! [sl_from2, sl_to (Nat.le_of_lt hi)]
            rw [ed]
            refine cl ib ?_
            rintro _ _ rfl
            cases oa with
            | none =>
              subst hR
              simp! [rdD]
            | some a =>
              cases ob with
              | none =>
                subst hR
                simp! [rdD, isN_sa]
              | some b =>
                simp! [rdD, isN_sa]
                rw [hR]
                show (D.tup [tx (befP t), saD a, saD b], Ow.deep) = (saD (.two (decide (befP t = tBoth)) a b), Ow.deep)
                rcases h2 with h | h <;> rw [h] <;> rfl
          · simp! [h32]
            rw [hR, if_neg h32]
            rfl
      · simp! [hL]
        rw [hR, if_neg fun z => hL z.2.2]
        rfl
    · rw [decide_eq_false h2]
      simp! []
      rw [hR, if_neg fun z => h2 z.2.1]
      rfl
  · rw [if_neg h40]
    simp! []
    rw [hR, if_neg fun z => h40 z.1]
    rfl
theorem C_say : ∀ (d n : Nat) (t : List Nat), t.length ≤ 20000 → okT t → CL (call tab (n + 2 * d + 2)) g_saying_in [(tx t, .deep), (.int (d : Int), .deep)] fun r os => r = (rdD (rdP d t), .deep)
  | 0, n, t, hl, hk => by
    have c1 : CL (call tab (n + 2 * 0 + 1)) g_many_in [(tx (t.drop 5), .deep)] fun r os => r = (rdD (manyR (t.drop 5)), .deep) := C_many_in (by rw [List.length_drop]; omega)
    refine cl_saying_in ?_
    unfold s_saying_in
    simp! []
    refine OP_of (congrArg some in9) ?_
    rw [rdP]
    by_cases h9 : t ∈ plain9
    · simp! [h9]
      rfl
    by_cases h5 : t.take 5 = tMany5
    · simp! [h9, h5, drop_minT]
      refine cl c1 ?_
      rintro _ _ rfl
      simp! []
      rw [if_neg h9, if_pos h5]
    simp! [h9, h5]
    refine cl (C_joined0 hl hk) ?_
    rintro _ _ rfl
    simp! []
    rw [if_neg h9, if_neg h5]
    rfl
  | d + 1, n, t, hl, hk => by
    have c1 : CL (call tab (n + 2 * (d + 1) + 1)) g_many_in [(tx (t.drop 5), .deep)] fun r os => r = (rdD (manyR (t.drop 5)), .deep) := C_many_in (by rw [List.length_drop]; omega)
    have c2 : CL (call tab (n + 2 * (d + 1) + 1)) g_joined_in [(tx t, .deep), (.int ((d + 1 : Nat) : Int), .deep)] fun r os => r = (rdD (joinR (rdP d) t), .deep) := C_joined hl hk (fun u h1 h2 => C_say d n u h1 h2) ⟨_, rfl⟩
    refine cl_saying_in ?_
    unfold s_saying_in
    simp! []
    refine OP_of (congrArg some in9) ?_
    rw [rdP]
    by_cases h9 : t ∈ plain9
    · simp! [h9]
      rfl
    by_cases h5 : t.take 5 = tMany5
    · simp! [h9, h5, drop_minT]
      refine cl c1 ?_
      rintro _ _ rfl
      simp! []
      rw [if_neg h9, if_pos h5]
    simp! [h9, h5]
    refine cl c2 ?_
    rintro _ _ rfl
    simp! []
    rw [if_neg h9, if_neg h5]
theorem C_read {n : Nat} {t : List Nat} {s : Sa} (hl : t.length ≤ 20000) (hk : okT t) (h : rdP 3 t = some s) : CL (call tab (n + 9)) g_read_saying [(tx t, .deep)] fun r os => r = (saD s, .deep) := by
  have c1 := C_say 3 n t hl hk
  rw [h] at c1
  refine cl_read_saying ?_
  unfold s_read_saying
  simp! []
  refine cl c1 ?_
  rintro _ _ rfl
  simp! [rdD, isN_sa]
theorem E_read {n : Nat} {t : List Nat} (hl : t.length ≤ 20000) (hk : okT t) (h : rdP 3 t = none) : CE (call tab (n + 9)) g_read_saying [(tx t, .deep)] (3, 0) := by
  have c1 := C_say 3 n t hl hk
  rw [h] at c1
  refine ce_read_saying (by decide) ?_
  unfold s_read_saying
  simp! []
  refine cl c1 ?_
  rintro _ _ rfl
  simp! [rdD]
theorem C_told {n : Nat} {t : List Nat} (hl : t.length ≤ 20000) (hk : okT t) : CL (call tab (n + 10)) g_law_told_k13 [(tx t, .deep)] fun r os => r = (rdD (rdP 3 t), .deep) := by
  refine cl_law_told_k13 ?_
  unfold s_law_told_k13
  simp! []
  refine X_sc ?_
  simp! []
  cases h : rdP 3 t with
  | none =>
    refine clxX (E_read (n := n) hl hk h) ?_
    simp! []
    rfl
  | some s =>
    refine clxN (C_read (n := n) hl hk h) ?_
    rintro _ _ rfl
    simp! [rdD, isN_sa]
theorem C_law_number {n : Nat} {t : List Nat} (hl : t.length ≤ 20000) : CL (call tab (n + 1)) g_law_number_k13 [(tx t, .deep)] fun r os => r = (rdD (manyR t), .deep) := by
  have hno : numOK t = false → manyR t = none := fun h => by unfold manyR; rw [if_neg fun z => by rw [h] at z; exact absurd z.1 (by decide)]
  refine cl_law_number_k13 ?_
  unfold s_law_number_k13
  by_cases h0 : t.length = 0
  · obtain rfl := List.length_eq_zero_iff.mp h0
    simp! []
    rfl
  have h0' : t ≠ [] := fun z => h0 (by rw [z]; rfl)
  by_cases h4 : 4 < t.length
  · simp! [h0', show (4 : Int) < (t.length : Int) by omega]
    rw [hno (by unfold numOK; rw [decide_eq_false (show ¬ t.length ≤ 4 by omega)]; simp)]
    rfl
  simp! [h0', show ¬ (4 : Int) < (t.length : Int) by omega]
  refine ⟨by show _ ≤ 16777216; omega, CP_pure (fun c : Nat => tx [c]) (fun c => !(decide (48 ≤ c) && decide (c ≤ 57))) (fun c => tx [c]) ?_ ?_⟩
  · intro c hc
    simp! [digit_in]
  · by_cases hd : (t.all fun c => decide (48 ≤ c) && decide (c ≤ 57)) = true
    · rw [List.filter_eq_nil_iff.mpr fun c hc => by
        have : (decide (48 ≤ c) && decide (c ≤ 57)) = true := List.all_eq_true.mp hd c hc
        rw [this]
        decide]
      simp! []
      by_cases h48 : t.head? = some 48
      · obtain ⟨r, rfl⟩ : ∃ r, t = 48 :: r := by
          cases t with
          | nil => cases h48
          | cons c r => exact ⟨r, by rw [Option.some.inj h48]⟩
        refine ⟨by simp [shps], ?_⟩
        simp! [List.isEmpty_nil]
        rw [hno (by unfold numOK; simp)]
        rfl
      · have hok : numOK t = true := by
          unfold numOK
          rw [hd, decide_eq_true (show 1 ≤ t.length by omega), decide_eq_true (show t.length ≤ 4 by omega)]
          simp [h48]
        have hi := int_num4 hok
        obtain ⟨c, r, hc, rfl⟩ : ∃ c r, c ≠ 48 ∧ t = c :: r := by
          cases t with
          | nil => exact absurd rfl h0'
          | cons c r => exact ⟨c, r, fun z => h48 (by rw [z]; rfl), rfl⟩
        refine ⟨by simp [shps], ?_⟩
        simp! [List.isEmpty_nil, sgl, hc]
        have hrl : r.length ≤ 3 := by simp only [List.length_cons] at h4; omega
        refine ⟨by omega, OP_of (int_num5 hok) ?_⟩
        simp! []
        refine BR_d (fun h => ?_) fun h => ?_
        · simp! []
          unfold manyR
          rw [if_neg fun z => by omega]
          rfl
        · simp! []
          refine ⟨by omega, OP_of (int_num5 hok) ?_⟩
          simp! []
          unfold manyR
          rw [if_pos ⟨hok, by omega⟩]
          rfl
    · have hne : (t.filter fun c => !(decide (48 ≤ c) && decide (c ≤ 57))) ≠ [] := fun z => hd (List.all_eq_true.mpr fun c hc => by
        have := List.filter_eq_nil_iff.mp z c hc
        simpa using this)
      generalize (t.filter fun c => !(decide (48 ≤ c) && decide (c ≤ 57))) = u at hne
      have hsp : shps 29 (u.map fun c => tx [c]) = true := by
        have := shps_tx (n := 29) (l := u.map fun c => [c])
        rwa [List.map_map] at this
      simp! [hsp, isEmpty_map, List.isEmpty_eq_false_iff.mpr hne]
      rw [hno (by
        cases hn : numOK t with
        | false => rfl
        | true =>
          unfold numOK at hn
          rw [Bool.and_eq_true] at hn
          exact absurd hn.2 hd)]
      rfl

local macro_rules | `(tactic| simp! [$ls,*]) => `(tactic| simpa! [$ls,*])
local macro_rules | `(tactic| dsimp! [$ls,*]) => `(tactic| simp_all! [$ls,*])
local macro_rules | `(tactic| simp! [$ls,*]) => `(tactic| simpa! [plain_sa, vl_sa, plains_sa, a1_cnt40, a1_cnt41, a1_starts5, prtn_40, isN_rd, W_enuS, it_enuS, $ls,*])
local macro_rules | `(tactic| dsimp! [$ls,*]) => `(tactic| simp_all! [plain_sa, vl_sa, plains_sa, a1_cnt40, a1_cnt41, a1_starts5, prtn_40, isN_rd, W_enuS, it_enuS, $ls,*])

theorem in9L {t : List Nat} : (decide ([116, 114, 101, 101] = t) || (decide ([110, 101, 97, 114] = t) || (decide ([98, 97, 114, 101] = t) || (decide ([115, 105, 100, 101, 115] = t) || (decide ([111, 100, 100] = t) || (decide ([112, 97, 105, 114, 105, 110, 103] = t) || (decide ([99, 104, 101, 97, 112, 101, 115, 116] = t) || (decide ([114, 111, 117, 110, 100] = t) || decide ([98, 97, 108, 108] = t))))))))) = decide (t ∈ plain9) := by
  unfold plain9
  rw [Bool.eq_iff_iff]
  simp only [Bool.or_eq_true, decide_eq_true_eq, List.mem_cons, List.not_mem_nil, or_false, @eq_comm _ t]
theorem take_minT {t : List Nat} {k : Nat} : List.take (min k t.length - 0) (List.drop 0 t) = t.take k := by
  rw [List.drop_zero, Nat.sub_zero]
  by_cases h : k ≤ t.length
  · rw [Nat.min_eq_left h]
  · rw [Nat.min_eq_right (by omega), List.take_length, List.take_of_length_le (by omega)]
def rdJ : Nat → List Nat → Option Sa
  | 0, _ => none
  | d + 1, t => joinR (rdP d) t
theorem rdP_eq {d : Nat} {t : List Nat} : rdP d t = if t ∈ plain9 then some (.w t) else if t.take 5 = tMany5 then manyR (t.drop 5) else rdJ d t := by
  cases d <;> rfl
theorem sl_to1 {t : List Nat} {k : Nat} : List.take ((if (k : Int) + 1 < 0 then ((k : Int) + 1 + (t.length : Int)).toNat else min ((k : Int) + 1).toNat t.length) - 0) (List.drop 0 t) = t.take (k + 1) := by
  rw [if_neg (by omega), show ((k : Int) + 1).toNat = k + 1 by omega, take_minT]
theorem form_of {o : Bool} {t : List Nat} (h1 : t.take ((twoT o).length + 1) = twoT o ++ [40]) (h2 : t.getLast? = some 41) : ∃ r, t = twoT o ++ 40 :: (r ++ [41]) := by
  have e : t = twoT o ++ [40] ++ t.drop ((twoT o).length + 1) := by rw [← h1, List.take_append_drop]
  generalize t.drop ((twoT o).length + 1) = q at e
  cases hq : q.getLast? with
  | none =>
    obtain rfl := List.getLast?_eq_none_iff.mp hq
    rw [e, List.append_nil, List.getLast?_concat] at h2
    cases h2
  | some c =>
    obtain ⟨r, rfl⟩ := List.getLast?_eq_some_iff.mp hq
    rw [e, ← List.append_assoc, List.getLast?_concat] at h2
    cases h2
    exact ⟨r, by rw [e]; simp⟩
theorem sl_mid {t w r : List Nat} (h : t = w ++ 40 :: (r ++ [41])) : List.take ((-1 + (t.length : Int)).toNat - if (w.length : Int) + 1 < 0 then ((w.length : Int) + 1 + (t.length : Int)).toNat else min ((w.length : Int) + 1).toNat t.length) (List.drop (if (w.length : Int) + 1 < 0 then ((w.length : Int) + 1 + (t.length : Int)).toNat else min ((w.length : Int) + 1).toNat t.length) t) = r := by
  have e : t = (w ++ [40]) ++ (r ++ [41]) := by rw [h]; simp
  have hl : t.length = w.length + r.length + 2 := by rw [h]; simp; omega
  have hw : (w ++ [40]).length = w.length + 1 := by simp
  have e1 : min ((w.length : Int) + 1).toNat t.length = (w ++ [40]).length := by omega
  have e2 : (-1 + (t.length : Int)).toNat - (w ++ [40]).length = r.length := by omega
  rw [if_neg (by omega), e1, e2, e, List.drop_left, List.take_left]
def NoF (d : Nat) (t : List Nat) (j : Nat) : Prop := ∀ o : Bool, (o = true → 1 ≤ j) → (o = false → 2 ≤ j) → ∀ r, t = twoT o ++ 40 :: (r ++ [41]) → rdJ d t = none
def NoI (e : Nat) (r : List Nat) (j : Nat) : Prop := ∀ i, i < j → ∀ a b, (r.drop i).take 2 = [44, 32] → (r.take i).count 40 = (r.take i).count 41 → rdP e (r.take i) = some a → rdP e (r.drop (i + 2)) = some b → False
theorem C_law_readG {n d : Nat} {t : List Nat} (hl : t.length ≤ 20000) (ih : ∀ e, d = e + 1 → ∀ u : List Nat, u.length ≤ 20000 → CL (call tab (n + 1)) g_law_read_k13 [(tx u, .deep), (.int (e : Int), .deep)] fun r os => r = (rdD (rdP e u), .deep)) : CL (call tab (n + 2)) g_law_read_k13 [(tx t, .deep), (.int (d : Int), .deep)] fun r os => r = (rdD (rdP d t), .deep) := by
  have c1 : CL (call tab (n + 1)) g_law_number_k13 [(tx (t.drop 5), .deep)] fun r os => r = (rdD (manyR (t.drop 5)), .deep) := C_law_number (by rw [List.length_drop]; omega)
  rw [rdP_eq]
  refine cl_law_read_k13 ?_
  unfold s_law_read_k13
  simp! [-W_FLcons]
  rw [in9L]
  by_cases h9 : t ∈ plain9
  · rw [decide_eq_true h9, if_pos h9]
    simp! []
    rfl
  rw [decide_eq_false h9, if_neg h9]
  simp! [-W_FLcons, take_minT]
  by_cases h5 : t.take 5 = tMany5
  · rw [if_pos h5]
    simp! [-W_FLcons, h5, drop_minT]
    refine cl c1 ?_
    rintro _ _ rfl
    simp! []
  rw [if_neg h5]
  simp! [-W_FLcons, h5]
  refine FL_ix (fun j E => ∃ (o2 o3 o4 o5 o6 o7 : Option Val), NoF d t j ∧ E = [some (tx t, .deep), some (.int (d : Int), .deep), o2, o3, o4, o5, o6, o7]) ⟨_, _, _, _, _, _, fun o h1 h2 => by
    cases o with
    | true => exact absurd (h1 rfl) (by decide)
    | false => exact absurd (h2 rfl) (by decide), rfl⟩ ?_ ?_
  · rintro j _ hj ⟨o2, o3, o4, o5, o6, o7, hno, rfl⟩
    have hj : j < 2 := hj
    obtain ⟨o, ho⟩ : ∃ o : Bool, o = decide (j = 0) := ⟨_, rfl⟩
    have hit : ([tx [98, 111, 116, 104], tx [101, 105, 116, 104, 101, 114]] : List D)[j]'hj = tx (twoT o) := by
      subst ho
      match j, hj with
      | 0, _ => rfl
      | 1, _ => rfl
    rw [hit]
    have hstep : (∀ r, t = twoT o ++ 40 :: (r ++ [41]) → rdJ d t = none) → NoF d t (j + 1) := fun h o' h1 h2 r hr => by
      by_cases he : o' = o
      · subst he
        exact h r hr
      · refine hno o' (fun z => ?_) (fun z => ?_) r hr
        · subst z
          have : o = false := by cases o with | true => exact absurd rfl he | false => rfl
          rw [this] at ho
          have := of_decide_eq_false ho.symm
          omega
        · subst z
          have : o = true := by cases o with | true => rfl | false => exact absurd rfl he
          rw [this] at ho
          have := of_decide_eq_true ho.symm
          have := h2 rfl
          omega
    simp! [-W_FLcons]
    refine ⟨by cases o <;> decide, ?_⟩
    rw [sl_to1]
    by_cases hA : t.take ((twoT o).length + 1) = twoT o ++ [40]
    · simp! [hA, last_dec]
      by_cases hB : t.getLast? = some 41
      · simp! [hB]
        obtain ⟨r, hr⟩ := form_of hA hB
        cases d with
        | zero =>
          simp! []
          exact ⟨_, _, _, _, _, _, hstep fun _ _ => rfl, rfl⟩
        | succ e =>
          simp! [show (0 : Int) < ((e + 1 : Nat) : Int) by omega]
          have hrl : r.length + 2 ≤ t.length := by
            have := congrArg List.length hr
            simp only [List.length_append, List.length_cons, List.length_nil] at this
            omega
          have hms := sl_mid hr
          simp! [hms]
          refine ⟨by omega, ?_⟩
          have hfin : NoI e r r.length → rdJ (e + 1) t = none := fun h => by
            cases hd : rdJ (e + 1) t with
            | none => rfl
            | some s =>
              have hd' : joinR (rdP e) (twoT o ++ 40 :: (r ++ [41])) = some s := by rw [← hr]; exact hd
              obtain ⟨i, a, b, h1, h2, h3, h4, h5⟩ := joinR_find hd'
              exact (h i h1 a b h2 h3 h4 h5).elim
          refine FL_r0 (fun i E => ∃ (o5 o6 o7 : Option Val), NoI e r i ∧ E = [some (tx t, .deep), some (.int ((e + 1 : Nat) : Int), .deep), some (tx (twoT o), .deep), some (.int (((twoT o).length : Int) + 1), .deep), some (tx r, .deep), o5, o6, o7]) ⟨_, _, _, fun i h => by omega, rfl⟩ ?_ ?_
          · rintro i _ hi ⟨o5, o6, o7, hno2, rfl⟩
            have hst : (∀ a b, (r.drop i).take 2 = [44, 32] → (r.take i).count 40 = (r.take i).count 41 → rdP e (r.take i) = some a → rdP e (r.drop (i + 2)) = some b → False) → NoI e r (i + 1) := fun h i' hi' a b h1 h2 h3 h4 => by
              by_cases he : i' = i
              · subst he
                exact h a b h1 h2 h3 h4
              · exact hno2 i' (by omega) a b h1 h2 h3 h4
            simp! [sl_at2 hi]
            by_cases h32 : (r.drop i).take 2 = [44, 32]
            · simp! [h32, sl_to (Nat.le_of_lt hi)]
              by_cases hcc : (r.take i).count 40 = (r.take i).count 41
              · simp! [hcc, sl_to (Nat.le_of_lt hi)]
                have ed : ((e + 1 : Nat) : Int) - 1 = (e : Int) := by omega
                have ia := ih e rfl (r.take i) (by rw [List.length_take]; omega)
                have ib := ih e rfl (r.drop (i + 2)) (by rw [List.length_drop]; omega)
                rw [ed]
                refine cl ia ?_
                rintro _ _ rfl
                simp! [sl_from2, sl_to (Nat.le_of_lt hi)]
                rw [ed]
                refine cl ib ?_
                rintro _ _ rfl
                cases ha : rdP e (r.take i) with
                | none =>
                  simp! [rdD]
                  exact ⟨_, _, _, hst (fun a b _ _ h3 => by rw [ha] at h3; cases h3), rfl⟩
                | some a =>
                  cases hb : rdP e (r.drop (i + 2)) with
                  | none =>
                    simp! [rdD, isN_sa]
                    exact ⟨_, _, _, hst (fun a b _ _ _ h4 => by rw [hb] at h4; cases h4), rfl⟩
                  | some b =>
                    simp! [rdD, isN_sa]
                    have hj : rdJ (e + 1) t = some (.two o a b) := by
                      rw [hr]
                      exact joinR_at h32 ha hb
                    rw [hj]
                    rfl
              · simp! [show ¬ (((r.take i).count 40 : Nat) : Int) = (((r.take i).count 41 : Nat) : Int) by omega]
                exact ⟨_, _, _, hst fun a b h1 h2 => absurd h2 hcc, rfl⟩
            · simp! [h32]
              exact ⟨_, _, _, hst fun a b h1 => absurd h1 h32, rfl⟩
          · rintro _ ⟨o5, o6, o7, hno2, rfl⟩
            exact ⟨_, _, _, _, _, _, hstep fun _ _ => hfin hno2, rfl⟩
      · simp! [hB]
        exact ⟨_, _, _, _, _, _, hstep fun r hr => absurd (by rw [hr, ← List.cons_append, ← List.append_assoc, List.getLast?_concat]) hB, rfl⟩
    · simp! [hA]
      exact ⟨_, _, _, _, _, _, hstep fun r hr => absurd (by rw [hr, show twoT o ++ 40 :: (r ++ [41]) = (twoT o ++ [40]) ++ (r ++ [41]) by simp]; exact List.take_left' (by simp)) hA, rfl⟩
  · rintro _ ⟨o2, o3, o4, o5, o6, o7, hno, rfl⟩
    simp! []
    have hj : rdJ d t = none := by
      cases hd : rdJ d t with
      | none => rfl
      | some s =>
        cases d with
        | zero => cases hd
        | succ e =>
          obtain ⟨o, r, hr⟩ := joinR_some hd
          have := hno o (fun _ => by decide) (fun _ => by decide) r hr
          rw [this] at hd
          cases hd
    rw [hj]
    rfl
theorem C_law_read : ∀ (d n : Nat) (t : List Nat), t.length ≤ 20000 → CL (call tab (n + d + 2)) g_law_read_k13 [(tx t, .deep), (.int (d : Int), .deep)] fun r os => r = (rdD (rdP d t), .deep)
  | 0, n, t, hl => C_law_readG hl fun e he => by cases he
  | d + 1, n, t, hl => C_law_readG (n := n + (d + 1)) hl fun e he u hu => by
    obtain rfl : d = e := by omega
    exact C_law_read d n u hu

local macro_rules | `(tactic| simp! [$ls,*]) => `(tactic| simpa! [$ls,*])
local macro_rules | `(tactic| dsimp! [$ls,*]) => `(tactic| simp_all! [$ls,*])

def shoT : Sa → List Nat
  | .w l => l
  | .many m => tMany5 ++ TL.numL m.toNat
  | .two o a b => twoT o ++ 40 :: (shoT a ++ (44 :: 32 :: (shoT b ++ [41])))
theorem numL_facts : ∀ m, m < 4096 → 1 ≤ m → numOK (TL.numL m) = true ∧ numV (TL.numL m) = m := by decide +kernel
theorem shoT_read : ∀ {s : Sa} {d : Nat}, s.ok → s.dep ≤ d → rdP d (shoT s) = some s
  | .w l, d, h, _ => by
    rw [rdP_eq, if_pos (show shoT (.w l) ∈ plain9 from h)]
    rfl
  | .many m, d, h, _ => by
    obtain ⟨h1, h2⟩ := h
    obtain ⟨a, b⟩ := numL_facts m.toNat (by omega) (by omega)
    have e5 : (shoT (.many m)).take 5 = tMany5 := rfl
    have hd : (shoT (.many m)).drop 5 = TL.numL m.toNat := rfl
    have hn9 : shoT (.many m) ∉ plain9 := fun z => by
      have : ∀ l ∈ plain9, l.take 5 ≠ tMany5 := by decide
      exact this _ z e5
    rw [rdP_eq, if_neg hn9, if_pos e5, hd]
    unfold manyR
    rw [if_pos ⟨a, by rw [b]; omega⟩, b, Int.toNat_of_nonneg (by omega)]
  | .two o x y, d, h, hd => by
    have hd : max x.dep y.dep + 1 ≤ d := hd
    obtain ⟨e, rfl⟩ : ∃ e, d = e + 1 := ⟨d - 1, by omega⟩
    have hx := shoT_read (d := e) h.1 (by omega)
    have hy := shoT_read (d := e) h.2 (by omega)
    have hform : shoT (.two o x y) = twoT o ++ 40 :: ((shoT x ++ (44 :: 32 :: shoT y)) ++ [41]) := by
      show twoT o ++ 40 :: _ = _
      simp
    have hn9 : shoT (.two o x y) ∉ plain9 := fun z => by
      have := plain9_flat z 40 (by rw [hform]; simp)
      exact this.1 rfl
    have hn5 : (shoT (.two o x y)).take 5 ≠ tMany5 := by
      rw [hform]
      cases o with
      | true => intro z; cases z
      | false => intro z; cases z
    rw [rdP_eq, if_neg hn9, if_neg hn5]
    show joinR (rdP e) _ = _
    rw [hform]
    refine joinR_at (i := (shoT x).length) ?_ ?_ ?_
    · rw [List.drop_left]; rfl
    · rw [List.take_left]; exact hx
    · have : shoT x ++ (44 :: 32 :: shoT y) = (shoT x ++ [44, 32]) ++ shoT y := by simp
      rw [this, List.drop_left' (by simp)]
      exact hy
theorem shoT_len : ∀ {s : Sa}, s.ok → (shoT s).length + 10 ≤ 19 * 2 ^ s.dep
  | .w l, h => by
    have : ∀ l ∈ plain9, l.length + 10 ≤ 19 := by decide
    exact this l h
  | .many m, h => by
    obtain ⟨a, _⟩ := numL_facts m.toNat (by have := h.2; omega) (by have := h.1; omega)
    unfold numOK at a
    simp only [Bool.and_eq_true, decide_eq_true_eq] at a
    have := a.1.1.2
    show (tMany5 ++ TL.numL m.toNat).length + 10 ≤ 19 * 1
    rw [List.length_append]
    have : tMany5.length = 5 := rfl
    omega
  | .two o x y, h => by
    have a := shoT_len h.1
    have b := shoT_len h.2
    have c1 : 2 ^ x.dep ≤ 2 ^ max x.dep y.dep := Nat.pow_le_pow_right (by decide) (Nat.le_max_left _ _)
    have c2 : 2 ^ y.dep ≤ 2 ^ max x.dep y.dep := Nat.pow_le_pow_right (by decide) (Nat.le_max_right _ _)
    have e : (shoT (.two o x y)).length = (twoT o).length + (shoT x).length + (shoT y).length + 4 := by
      show (twoT o ++ 40 :: _).length = _
      simp only [List.length_append, List.length_cons, List.length_nil]
      omega
    have ho : (twoT o).length ≤ 6 := by cases o <;> decide
    rw [e, Sa.dep, Nat.pow_succ]
    omega
theorem shoT_ok : ∀ {s : Sa}, s.ok → okT (shoT s)
  | .w l, h => by
    have : ∀ l ∈ plain9, ∀ c ∈ l, c < 128 := by decide
    exact this l h
  | .many m, h => by
    refine okT.app (by unfold okT; decide) fun c hc => ?_
    have := TL.numL_digits m.toNat c hc
    omega
  | .two o x y, h => by
    refine okT.app (by cases o <;> (unfold okT; decide)) fun c hc => ?_
    rcases List.mem_cons.mp hc with rfl | hc
    · decide
    rcases List.mem_append.mp hc with hc | hc
    · exact shoT_ok h.1 c hc
    rcases List.mem_cons.mp hc with rfl | hc
    · decide
    rcases List.mem_cons.mp hc with rfl | hc
    · decide
    rcases List.mem_append.mp hc with hc | hc
    · exact shoT_ok h.2 c hc
    · rw [List.mem_singleton.mp hc]
      decide
theorem str_numL {m : Int} (h : 0 ≤ m) : D.str (Str.ofString (toString m)) = tx (TL.numL m.toNat) := by
  have e := TL.tl_num m.toNat
  rw [Int.toNat_of_nonneg h] at e
  unfold tx
  exact congrArg D.str (TL.ext_tl (by rw [e]))
local macro_rules | `(tactic| simp! [$ls,*]) => `(tactic| simpa! [plain_sa, vl_sa, plains_sa, a1_cnt40, a1_cnt41, a1_starts5, prtn_40, isN_rd, W_enuS, it_enuS, $ls,*])
local macro_rules | `(tactic| dsimp! [$ls,*]) => `(tactic| simp_all! [plain_sa, vl_sa, plains_sa, a1_cnt40, a1_cnt41, a1_starts5, prtn_40, isN_rd, W_enuS, it_enuS, $ls,*])

theorem C_show : ∀ (s : Sa) (d n : Nat), s.ok → s.dep ≤ d → d ≤ 3 → CL (call tab (n + d + 1)) g_show_saying [(saD s, .deep)] fun r os => r = (tx (shoT s), .deep)
  | .w l, d, n, h, hd, h3 => by
    have h1 : ∀ l ∈ plain9, ¬ (l = tBoth ∨ l = tEither) ∧ l ≠ tMany := by decide
    obtain ⟨a, b⟩ := h1 l h
    refine cl_show_saying ?_
    unfold s_show_saying
    simp! [saD]
    refine OP_of (congrArg some in2) ?_
    rw [decide_eq_false a]
    simp! [saD, b]
    rfl
  | .many m, d, n, h, hd, h3 => by
    refine cl_show_saying ?_
    unfold s_show_saying
    simp! [saD]
    refine OP_of (congrArg some in2) ?_
    rw [decide_eq_false (by decide)]
    simp! [saD]
    obtain ⟨h1, h2⟩ := h
    have hl : m.natAbs.log2 < 1920 := by
      refine (Nat.log2_lt (by omega)).mpr (Nat.lt_of_lt_of_le (show m.natAbs < 2 ^ 12 by omega) (Nat.pow_le_pow_right (by decide) (by decide)))
    have hn := shoT_len (s := .many m) ⟨h1, h2⟩
    have hn2 : (shoT (.many m)).length = 5 + (TL.numL m.toNat).length := by
      show (tMany5 ++ TL.numL m.toNat).length = _
      rw [List.length_append]
      rfl
    have hn3 : (shoT (.many m)).length + 10 ≤ 19 := hn
    rw [str_numL (by omega)]
    refine ⟨hl, ?_⟩
    simp! [saD]
    exact ⟨by omega, rfl⟩
  | .two o x y, d, n, h, hd, h3 => by
    have hd' : max x.dep y.dep + 1 ≤ d := hd
    obtain ⟨e, rfl⟩ : ∃ e, d = e + 1 := ⟨d - 1, by omega⟩
    have ix := C_show x e n h.1 (by omega) (by omega)
    have iy := C_show y e n h.2 (by omega) (by omega)
    have lx := shoT_len h.1
    have ly := shoT_len h.2
    have px : 2 ^ x.dep ≤ 2 ^ 3 := Nat.pow_le_pow_right (by decide) (by omega)
    have py : 2 ^ y.dep ≤ 2 ^ 3 := Nat.pow_le_pow_right (by decide) (by omega)
    have hin : decide (twoT o = tBoth ∨ twoT o = tEither) = true := by cases o <;> decide
    have ho : (twoT o).length ≤ 6 := by cases o <;> decide
    rw [show n + (e + 1) + 1 = (n + e + 1) + 1 by omega]
    refine cl_show_saying ?_
    unfold s_show_saying
    simp! [saD]
    refine OP_of (congrArg some in2) ?_
    rw [hin]
    simp! [saD, plains_sa]
    refine ⟨by omega, ?_⟩
    refine cl ix ?_
    rintro _ _ rfl
    have lxy : (twoT o ++ [40]).length + (shoT x).length ≤ 200 := by rw [List.length_append, List.length_singleton]; omega
    simp! [saD, plains_sa]
    refine ⟨by omega, by rw [List.length_append]; omega, ?_⟩
    refine cl iy ?_
    rintro _ _ rfl
    simp! [saD, plains_sa]
    have lz : (twoT o ++ [40] ++ shoT x ++ [44, 32]).length + (shoT y).length ≤ 400 := by
      rw [List.length_append, List.length_append]
      have : ([44, 32] : List Nat).length = 2 := rfl
      omega
    refine ⟨by omega, by rw [List.length_append]; omega, ?_⟩
    have : shoT (.two o x y) = twoT o ++ [40] ++ shoT x ++ [44, 32] ++ shoT y ++ [41] := by
      show twoT o ++ 40 :: _ = _
      simp
    rw [this]
theorem OP_txs {l : List Nat} {v : Int} {K : Nat → Prop} (h0 : 0 ≤ v) (h1 : v < l.length) (hk : okT l) (h : ∀ c, c < 128 → K c) : OP (atI l v) K :=
  OP_at h0 h1 fun hj => h _ (hk _ (List.getElem_mem _))
theorem C_law_sign {n : Nat} {a b : Int} : CL (call tab (n + 2)) g_law_sign [(.lst [.int a, .int b], .deep)] fun r os => ∃ (c : Nat) (x y : Int), c < 128 ∧ r = (tx [c], .deep) ∧ os = [some (.lst [.int x, .int y], .deep)] := by
  refine cl_law_sign ?_
  unfold s_law_sign
  simp! []
  refine cl (C_take (by decide) (by decide)) ?_
  rintro _ _ ⟨v, x, y, h0, h1, rfl, rfl⟩
  simp! []
  refine OP_txs h0 h1 (by unfold okT; decide) fun c hc => ?_
  simp! []
  exact ⟨c, _, _, hc, rfl, rfl⟩
theorem sl_fromk {r : List Nat} {i : Nat} : List.take (r.length - if (i : Int) < 0 then ((i : Int) + (r.length : Int)).toNat else min (i : Int).toNat r.length) (List.drop (if (i : Int) < 0 then ((i : Int) + (r.length : Int)).toNat else min (i : Int).toNat r.length) r) = r.drop i := by
  rw [if_neg (by omega), show (i : Int).toNat = i by omega, drop_minT]
theorem sl_from1 {r : List Nat} {i : Nat} : List.take (r.length - if (i : Int) + 1 < 0 then ((i : Int) + 1 + (r.length : Int)).toNat else min ((i : Int) + 1).toNat r.length) (List.drop (if (i : Int) + 1 < 0 then ((i : Int) + 1 + (r.length : Int)).toNat else min ((i : Int) + 1).toNat r.length) r) = r.drop (i + 1) := by
  rw [if_neg (by omega), show ((i : Int) + 1).toNat = i + 1 by omega, drop_minT]
theorem C_law_other {n : Nat} {t : List Nat} {a b : Int} (hl : t.length ≤ 9000) (hk : okT t) : CL (call tab (n + 3)) g_law_other [(tx t, .deep), (.lst [.int a, .int b], .deep)] fun r os => ∃ (u : List Nat) (x y : Int) (v0 : Option Val), u.length ≤ t.length + 1 ∧ okT u ∧ r = (tx u, .deep) ∧ os = [v0, some (.lst [.int x, .int y], .deep)] := by
  refine cl_law_other ?_
  unfold s_law_other
  simp! []
  refine cl (C_take (by omega) (by omega)) ?_
  rintro _ _ ⟨v, a, b, h0, h1, rfl, rfl⟩
  obtain ⟨i, rfl⟩ : ∃ i : Nat, v = (i : Int) := ⟨v.toNat, by omega⟩
  simp! []
  refine cl (C_take (by decide) (by decide)) ?_
  rintro _ _ ⟨w, a, b, g0, g1, rfl, rfl⟩
  simp! []
  refine cl C_law_sign ?_
  rintro _ _ ⟨c1, a, b, hc1, rfl, rfl⟩
  simp! []
  refine cl (C_take (by decide) (by decide)) ?_
  rintro _ _ ⟨v2, a, b, h2, h3, rfl, rfl⟩
  simp! []
  refine OP_txs h2 h3 (by unfold okT; decide) fun c2 hc2 => ?_
  simp! []
  refine cl (C_take (by decide) (by decide)) ?_
  rintro _ _ ⟨v3, a, b, h4, h5, rfl, rfl⟩
  simp! []
  refine OP_mem h4 h5 ?_
  intro x hx
  obtain ⟨c, hc, rfl⟩ : ∃ c, c < 128 ∧ x = tx [c] := by
    simp only [List.mem_cons, List.not_mem_nil, or_false] at hx
    rcases hx with rfl | rfl
    · exact ⟨_, hc1, rfl⟩
    · exact ⟨_, hc2, rfl⟩
  simp! []
  have hi : i ≤ t.length := by omega
  have hct : okT [c] := fun x hx => by rw [List.mem_singleton.mp hx]; exact hc
  have h1k : okT (t.take i) := hk.sub fun x hx => List.mem_of_mem_take hx
  refine BR_d (fun h => ?_) fun h => ?_
  · simp! [sl_to hi]
    rw [sl_fromk]
    have l1 : (t.take i).length = i := by rw [List.length_take]; omega
    have l2 : (t.drop i).length = t.length - i := List.length_drop
    have l3 : (t.take i ++ [c]).length = i + 1 := by rw [List.length_append, l1]; rfl
    have l4 : (t.take i ++ [c] ++ t.drop i).length = t.length + 1 := by rw [List.length_append, l3, l2]; omega
    exact ⟨by omega, by omega, _, _, _, _, by omega, (h1k.app hct).app (hk.sub fun x hx => List.mem_of_mem_drop hx), rfl, rfl⟩
  · simp! [sl_to hi]
    rw [sl_from1]
    obtain ⟨m, hm⟩ : ∃ m : Int, m = if w = 1 then 1 else 0 := ⟨_, rfl⟩
    rw [← hm]
    have hm1 : 0 ≤ m ∧ m ≤ 1 := by rw [hm]; split <;> omega
    have hrep : (List.replicate m.toNat [c]).flatten.length ≤ 1 ∧ okT (List.replicate m.toNat [c]).flatten := by
      rcases (by omega : m = 0 ∨ m = 1) with rfl | rfl
      · exact ⟨Nat.zero_le _, fun x hx => by cases hx⟩
      · exact ⟨Nat.le_refl _, by simpa using hct⟩
    generalize (List.replicate m.toNat [c]).flatten = z at hrep ⊢
    have l1 : (t.take i).length = i := by rw [List.length_take]; omega
    have l2 : (t.drop (i + 1)).length = t.length - (i + 1) := List.length_drop
    have l3 : (t.take i ++ z).length = i + z.length := by rw [List.length_append, l1]
    have l4 : (t.take i ++ z ++ t.drop (i + 1)).length = i + z.length + (t.length - (i + 1)) := by rw [List.length_append, l3, l2]
    have hz := hrep.1
    exact ⟨⟨hm1.1, by omega, by omega⟩, by omega, by omega, _, _, _, _, by omega, (h1k.app hrep.2).app (hk.sub fun x hx => List.mem_of_mem_drop hx), rfl, rfl⟩

local macro_rules | `(tactic| simp! [$ls,*]) => `(tactic| simpa! [$ls,*])
local macro_rules | `(tactic| dsimp! [$ls,*]) => `(tactic| simp_all! [$ls,*])
local macro_rules | `(tactic| simp! [$ls,*]) => `(tactic| simpa! [plain_sa, vl_sa, plains_sa, a1_cnt40, a1_cnt41, a1_starts5, prtn_40, isN_rd, W_enuS, it_enuS, $ls,*])
local macro_rules | `(tactic| dsimp! [$ls,*]) => `(tactic| simp_all! [plain_sa, vl_sa, plains_sa, a1_cnt40, a1_cnt41, a1_starts5, prtn_40, isN_rd, W_enuS, it_enuS, $ls,*])


theorem rdP_dep : ∀ {d : Nat} {t : List Nat} {s : Sa}, rdP d t = some s → s.dep ≤ d
  | d, t, s, h => by
    rw [rdP_eq] at h
    split at h
    · cases h; exact Nat.zero_le _
    · split at h
      · unfold manyR at h
        split at h
        · cases h; exact Nat.zero_le _
        · cases h
      · match d, h with
        | e + 1, h =>
          have h : joinR (rdP e) t = some s := h
          obtain ⟨o, r, rfl⟩ := joinR_some h
          rw [joinR_form] at h
          split at h
          · cases h
          · split at h
            · split at h
              · rename_i a b ha hb
                cases h
                have := rdP_dep ha
                have := rdP_dep hb
                show max a.dep b.dep + 1 ≤ e + 1
                omega
              · cases h
            · cases h
theorem shp_sa : ∀ {s : Sa} {n : Nat}, s.dep + 1 ≤ n → shp n (saD s) = true
  | .w l, n, h => by
    obtain ⟨m, rfl⟩ : ∃ m, n = m + 1 := ⟨n - 1, by omega⟩
    cases m <;> rfl
  | .many k, n, h => by
    obtain ⟨m, rfl⟩ : ∃ m, n = m + 1 := ⟨n - 1, by omega⟩
    cases m <;> rfl
  | .two o a b, n, h => by
    obtain ⟨m, rfl⟩ : ∃ m, n = m + 1 := ⟨n - 1, by omega⟩
    have h : max a.dep b.dep + 1 + 1 ≤ m + 1 := h
    rw [saD, shp, shps, shps, shps, shps, shp_sa (s := a) (by omega), shp_sa (s := b) (by omega)]
    cases m <;> rfl
theorem deq_sa : ∀ {s : Sa}, deq (saD s) (saD s) = true
  | .w l => by
    rw [saD, deq, deqs, deqs]
    simp [tx, deq]
  | .many k => by
    rw [saD, deq, deqs, deqs, deqs]
    simp [tx, deq]
  | .two o a b => by
    rw [saD, deq, deqs, deqs, deqs, deqs, deq_sa (s := a), deq_sa (s := b)]
    simp [tx, deq]
theorem ne_sa {s : Sa} (h : s.dep ≤ 3) : app2 .ne (saD s) (saD s) = some (.bl false) := by
  rw [a2_ne, shp_sa (by omega), deq_sa]
  rfl
theorem eq_sa {s : Sa} (h : s.dep ≤ 3) : app2 .eq (saD s) (saD s) = some (.bl true) := by
  rw [a2_eq, shp_sa (by omega), deq_sa]
  rfl
theorem ne_rd {t : List Nat} : app2 .ne (rdD (rdP 3 t)) (rdD (rdP 3 t)) = some (.bl false) := by
  cases h : rdP 3 t with
  | none => rfl
  | some s => exact ne_sa (rdP_dep h)
theorem rep_len {k : Nat} {l : List Nat} : (List.replicate k l).flatten.length = k * l.length := by simp
theorem rep_ok {k : Nat} {l : List Nat} (h : okT l) : okT (List.replicate k l).flatten := fun c hc => by
  obtain ⟨a, ha, hc⟩ := List.mem_flatten.mp hc
  rw [List.eq_of_mem_replicate ha] at hc
  exact h c hc
theorem rep_last {k c : Nat} {l : List Nat} : (List.replicate (k + 1) (l ++ [c])).flatten.getLast? = some c := by
  rw [List.replicate_succ', List.flatten_append]
  simp
theorem none_last {d c : Nat} {t : List Nat} (h4 : 40 ∈ t) (h5 : t.take 5 ≠ tMany5) (hl : t.getLast? = some c) (hc : c ≠ 41) : rdP d t = none := by
  rw [rdP_eq, if_neg (fun z => (plain9_flat z 40 h4).1 rfl), if_neg h5]
  match d with
  | 0 => rfl
  | e + 1 =>
    show joinR (rdP e) t = none
    cases h : joinR (rdP e) t with
    | none => rfl
    | some s =>
      obtain ⟨o, r, rfl⟩ := joinR_some h
      rw [← List.cons_append, ← List.append_assoc, List.getLast?_concat] at hl
      exact absurd (Option.some.inj hl).symm hc
def nestT : Nat → List Nat
  | 0 => tTree
  | k + 1 => twoT true ++ 40 :: ((nestT k ++ (44 :: 32 :: [110, 101, 97, 114])) ++ [41])
theorem nest_whl : ∀ k, Whl (nestT k)
  | 0 => .flat (by decide)
  | k + 1 => by
    have := Whl.two (w := twoT true) (.flat (by decide)) (nest_whl k) (.flat (t := [110, 101, 97, 114]) (by decide))
    simpa [nestT] using this
theorem nest_none : ∀ d k, d < k → rdP d (nestT k) = none
  | d, k + 1, h => by
    have h4 : 40 ∈ nestT (k + 1) := by simp [nestT]
    have h5 : (nestT (k + 1)).take 5 ≠ tMany5 := fun z => by cases z
    rw [rdP_eq, if_neg (fun z => (plain9_flat z 40 h4).1 rfl), if_neg h5]
    match d, h with
    | 0, _ => rfl
    | e + 1, h =>
      show joinR (rdP e) _ = none
      have hs := splP_whl (r := 32 :: [110, 101, 97, 114]) (nest_whl k)
      rw [nestT, joinR_form, hs]
      simp only
      rw [List.drop_left, List.take_left, nest_none e k (by omega)]
      split <;> rfl
theorem nest_eq : ∀ k, (List.replicate k [98, 111, 116, 104, 40]).flatten ++ [116, 114, 101, 101] ++ (List.replicate k [44, 32, 110, 101, 97, 114, 41]).flatten = nestT k
  | 0 => rfl
  | k + 1 => by
    rw [nestT, ← nest_eq k, List.replicate_succ, List.replicate_succ' (n := k) (a := [44, 32, 110, 101, 97, 114, 41]), List.flatten_append, List.flatten_cons]
    simp
    rfl
def BadT (x : D) : Prop := (∃ t, x = tx t ∧ t.length ≤ 20000 ∧ okT t ∧ rdP 3 t = none) ∨ x ∈ [.non, .int 5, .bl true, .tup [tx [116, 114, 101, 101]], .lst [tx [116, 114, 101, 101]], .dic false [], .int 0, .tup []]
theorem C_toldN {n : Nat} {x : D} (hx : x ∈ ([.non, .int 5, .bl true, .tup [tx [116, 114, 101, 101]], .lst [tx [116, 114, 101, 101]], .dic false [], .int 0, .tup []] : List D)) : CL (call tab (n + 10)) g_law_told_k13 [shv x] fun r os => r = (.non, .deep) := by
  have hE : CE (call tab (n + 9)) g_read_saying [shv x] (3, 0) := by
    refine ce_read_saying (by decide) ?_
    unfold s_read_saying
    simp only [List.mem_cons, List.not_mem_nil, or_false] at hx
    rcases hx with rfl | rfl | rfl | rfl | rfl | rfl | rfl | rfl <;> simp! [shv]
  refine cl_law_told_k13 ?_
  unfold s_law_told_k13
  have hv : ∀ w, vl (shv x).1 w = vl (shv x).1 w := fun _ => rfl
  simp only [List.mem_cons, List.not_mem_nil, or_false] at hx
  rcases hx with rfl | rfl | rfl | rfl | rfl | rfl | rfl | rfl <;> (simp! [shv]; refine X_sc ?_; simp! [shv]; refine clxX hE ?_; simp! [])
theorem FL_all {Φ : Phi} {tg body its E N R} (I : En → Prop) (B : D → Prop) (h0 : I E) (hB : ∀ x ∈ its, B x) (hs : ∀ x E, B x → I E → OP (bindT tg (shv x) E) fun E1 => W.EX Φ body E1 I R) (hN : ∀ E, I E → N E) : W.FL Φ tg body its E N R :=
  FL_ix (fun _ => I) h0 (fun k E h hi => hs _ E (hB _ (List.getElem_mem h)) hi) hN
theorem L_k13 {n : Nat} {ns : List Int} (hn : ns.length ≤ 63) : CL (call tab (n + 12)) g_law_k13 [(.scr ns, .deep)] fun r os => r = (.bl true, .deep) := by
  refine cl_law_k13 ?_
  unfold s_law_k13
  simp! []
  refine ⟨by omega, ?_⟩
  refine FL_r0 (fun k E => ∃ o1 o5 o6 o7 o8, E = [some (.scr ns, .deep), o1, none, none, none, o5, o6, o7, o8]) ⟨none, none, none, none, none, rfl⟩ ?_ ?_
  · rintro k _ hk ⟨o1, o5, o6, o7, o8, rfl⟩
    simp! []
    refine cl (C_pool (by omega) (by omega)) ?_
    rintro _ _ ⟨a, b, rfl, rfl⟩
    simp! []
    refine cl (C_law_saying 3 (n + 5) a b) ?_
    rintro _ _ ⟨s, a, b, v0, h1, h2, rfl, rfl⟩
    simp! []
    refine cl (C_show s 3 (n + 7) h1 h2 (by decide)) ?_
    rintro _ _ rfl
    have hlen : (shoT s).length ≤ 142 := by
      have := shoT_len h1
      have p : 2 ^ s.dep ≤ 2 ^ 3 := Nat.pow_le_pow_right (by decide) h2
      omega
    have hok := shoT_ok h1
    simp! []
    refine cl (C_law_other (n := n + 8) (t := shoT s) (by omega) hok) ?_
    rintro _ _ ⟨u, a, b, v1, hu, huk, rfl, rfl⟩
    simp! []
    refine cl (C_told (n := n + 1) (t := u) (by omega) huk) ?_
    rintro _ _ rfl
    simp! []
    refine cl (C_law_read 3 (n + 6) u (by omega)) ?_
    rintro _ _ rfl
    simp! []
    refine OP_of ne_rd ?_
    simp! []
    refine cl (C_told (n := n + 1) (t := shoT s) (by omega) hok) ?_
    rw [shoT_read h1 h2]
    rintro _ _ rfl
    simp! [rdD]
    refine OP_of (ne_sa h2) ?_
    simp! []
    refine ⟨by omega, ?_⟩
    refine cl (C_told (n := n + 1) (t := shoT s ++ u) (by rw [List.length_append]; omega) (hok.app huk)) ?_
    rintro _ _ rfl
    simp! []
    refine ⟨by omega, ?_⟩
    refine cl (C_law_read 3 (n + 6) (shoT s ++ u) (by rw [List.length_append]; omega)) ?_
    rintro _ _ rfl
    simp! []
    refine OP_of ne_rd ?_
    simp! []
    exact ⟨_, _, _, _, _, rfl⟩
  · rintro _ ⟨o1, o5, o6, o7, o8, rfl⟩
    simp! [-W_FLcons]
    refine ⟨by rw [rep_len]; decide, by rw [List.length_append, rep_len, rep_len]; decide, by rw [rep_len]; decide, by rw [rep_len]; decide, by rw [List.length_append, rep_len, rep_len]; decide, ?_⟩
    refine FL_all (fun E => ∃ o1 o2 o3 o5 o6 o7 o8, E = [some (.scr ns, .deep), o1, o2, o3, none, o5, o6, o7, o8]) BadT ⟨_, _, _, _, _, _, _, rfl⟩ ?_ ?_ ?_
    · intro x hx
      simp only [List.mem_cons, List.not_mem_nil, or_false] at hx
      rcases hx with rfl | rfl | rfl | rfl | rfl | rfl | rfl | rfl | rfl | rfl | rfl | rfl | rfl | rfl | rfl | rfl | rfl | rfl | rfl | rfl | rfl | hx
      iterate 17 exact .inl ⟨_, rfl, by decide +kernel, by unfold okT; decide +kernel, by decide +kernel⟩
      · refine .inl ⟨_, rfl, by simp only [List.length_cons, rep_len]; decide, ?_, ?_⟩
        · intro c hc
          simp only [List.mem_cons] at hc
          rcases hc with rfl | rfl | rfl | rfl | rfl | hc
          iterate 5 decide
          exact rep_ok (l := [49]) (by unfold okT; decide) c hc
        · rw [rdP_eq, if_neg (fun z => absurd z (by decide +kernel)), if_pos (by rfl)]
          unfold manyR
          rw [if_neg]
          rintro ⟨h, _⟩
          unfold numOK at h
          simp only [Bool.and_eq_true, decide_eq_true_eq] at h
          have := h.1.1.2
          have e : (List.drop 5 (109 :: 97 :: 110 :: 121 :: 32 :: (List.replicate 4400 [49]).flatten)).length = 4400 := by
            show (List.replicate 4400 [49]).flatten.length = _
            rw [rep_len]
            rfl
          omega
      · exact .inl ⟨_, rfl, by rw [rep_len]; decide, rep_ok (by unfold okT; decide), none_last (c := 40) (by decide +kernel) (by decide +kernel) (rep_last (k := 8999) (l := [])) (by decide)⟩
      · refine .inl ⟨_, rfl, by rw [List.length_append, List.length_append, rep_len, rep_len]; decide, ((rep_ok (by unfold okT; decide)).app (by unfold okT; decide)).app (rep_ok (by unfold okT; decide)), ?_⟩
        rw [nest_eq]
        exact nest_none 3 800 (by decide)
      · exact .inl ⟨_, rfl, by rw [rep_len]; decide, rep_ok (by unfold okT; decide), none_last (c := 40) (by decide +kernel) (by decide +kernel) (rep_last (k := 1899) (l := [98, 111, 116, 104])) (by decide)⟩
      · refine .inr ?_
        simp only [List.mem_cons, List.not_mem_nil, or_false]
        exact hx
    · rintro x _ hx ⟨o1, o2, o3, o5, o6, o7, o8, rfl⟩
      rcases hx with ⟨t, rfl, h1, h2, h3⟩ | hx
      · simp! []
        refine cl (C_told (n := n + 1) (t := t) h1 h2) ?_
        rw [h3]
        rintro _ _ rfl
        simp! [rdD]
        exact ⟨_, _, _, _, _, _, _, rfl⟩
      · have ct := C_toldN (n := n + 1) hx
        simp only [List.mem_cons, List.not_mem_nil, or_false] at hx
        rcases hx with rfl | rfl | rfl | rfl | rfl | rfl | rfl | rfl <;> (simp! [shv]; refine cl ct ?_; rintro _ _ rfl; simp! []; exact ⟨_, _, _, _, _, _, _, rfl⟩)
    · rintro _ ⟨o1, o2, o3, o5, o6, o7, o8, rfl⟩
      simp! []
      have hs : rdP 3 [101, 105, 116, 104, 101, 114, 40, 109, 97, 110, 121, 32, 52, 48, 57, 53, 44, 32, 98, 111, 116, 104, 40, 111, 100, 100, 44, 32, 98, 97, 108, 108, 41, 41] = some (.two false (.many 4095) (.two true (.w [111, 100, 100]) (.w [98, 97, 108, 108]))) := by
        have e : shoT (.two false (.many 4095) (.two true (.w [111, 100, 100]) (.w [98, 97, 108, 108]))) = [101, 105, 116, 104, 101, 114, 40, 109, 97, 110, 121, 32, 52, 48, 57, 53, 44, 32, 98, 111, 116, 104, 40, 111, 100, 100, 44, 32, 98, 97, 108, 108, 41, 41] := by decide +kernel
        rw [← e]
        exact shoT_read ⟨⟨by decide, by decide⟩, (by decide : [111, 100, 100] ∈ plain9), (by decide : [98, 97, 108, 108] ∈ plain9)⟩ (by decide)
      refine cl (C_told (n := n + 1) (by decide) (by unfold okT; decide)) ?_
      rw [hs]
      rintro _ _ rfl
      simp! [rdD]
      refine OP_of (eq_sa (s := .two false (.many 4095) (.two true (.w [111, 100, 100]) (.w [98, 97, 108, 108]))) (by decide)) ?_
      simp! []

end BS

set_option maxRecDepth 100000
set_option maxHeartbeats 4000000
theorem PySem.Challenge.cw_besidesay_k13_texts_that_are_none_holds : PySem.Challenge.rw_besidesay_k13_texts_that_are_none.Holds := by
  refine holds_of fun ns h => ?_
  obtain ⟨r, os, e, rfl⟩ := BS.L_k13 (n := 48) h
  exact ⟨_, os, e⟩
