import PyProof.Rows.All
import Wide.All
import OpenK.AllK
import Wide.FinOn
import HandS.ForMost
import HandS.Wide
import KE.SortData
import HandS.ForExc
import HandS.ExcInit
import HandS.Deep
import HandS.Strs
import HandS.SortInts
import HandS.TupLe
import HandS.WideBits
import HandS.IsInst
import HandS.Conv
import HandS.Style
import PyProof.NeKinds
import HandS.Steps
import KE.KTupSum
import HandS.SetFor
import KE.KExcIs
import KE.DataMinMax
import HandS.TryOnly
import HandS.ExcOwn
import HandS.Comp
import KE.KExcSuper
import HandS.ExcSuper
import HandS.ForSpec
import PyProof.SumAny
import HandS.ExcValue
import HandS.HeadEnd
import HandS.HeadHook2
import HandS.Head1
import HandS.Head2
import PySem.Challenge.RW_joinorcut_k81_whole_distances
set_option Elab.async false
section
set_option linter.all false
set_option maxRecDepth 100000
set_option maxHeartbeats 4000000
/-! A small language of values: data D, owned trees O, its evaluator. -/
namespace Ev
open PySem

/-- plain data, with no address in it -/
inductive D where
  | non | bl (b : Bool) | int (i : Int) | str (s : Str)
  | lst (xs : List D) | tup (xs : List D) | dct (kvs : List (D × D))
  | scr (ns : List Int)
  | fn (f : Nat) | ty (n : String) | cls (c : Nat) | exc (c : Nat) (v : D)
  deriving Inhabited

mutual
def D.py : D → PyData
  | .non => .none
  | .bl b => .bool b
  | .int i => .int i
  | .str s => .str s
  | .lst xs => .list (D.pys xs)
  | .tup xs => .tuple (D.pys xs)
  | _ => .none
def D.pys : List D → List PyData
  | [] => []
  | x :: xs => D.py x :: D.pys xs
end
mutual
/-- data all through, at most so deep -/
def D.okD : D → Nat → Bool
  | .non, _ => true
  | .bl _, _ => true
  | .int _, _ => true
  | .str s, _ => s.cps.all (· < 0x110000)
  | .lst xs, n => D.okDs xs n
  | .tup xs, n => D.okDs xs n
  | _, _ => false
def D.okDs : List D → Nat → Bool
  | [], n => decide (0 < n)
  | x :: xs, n => decide (0 < n) && (D.okD x (n - 1) && D.okDs xs n)
end
mutual
def D.eqv : D → D → Bool
  | .non, .non => true
  | .bl a, .bl b => a == b
  | .bl a, .int j => (if a then 1 else 0) == j
  | .int i, .bl b => i == (if b then 1 else 0)
  | .int i, .int j => decide (i = j)
  | .str x, .str y => decide (x = y)
  | .lst xs, .lst ys => D.eqvs xs ys
  | .tup xs, .tup ys => D.eqvs xs ys
  | _, _ => false
def D.eqvs : List D → List D → Bool
  | [], [] => true
  | x :: xs, y :: ys => D.eqv x y && D.eqvs xs ys
  | _, _ => false
end
mutual
/-- no list, no dict in it: nothing that could change -/
def D.flat : D → Bool
  | .non => true
  | .bl _ => true
  | .int _ => true
  | .str _ => true
  | .tup xs => D.flats xs
  | .fn _ => true
  | .ty _ => true
  | .cls _ => true
  | _ => false
def D.flats : List D → Bool
  | [] => true
  | x :: xs => D.flat x && D.flats xs
end

/-- a value as it is held: plain data, or a tree whose lists no one else holds -/
inductive O where
  | im (d : D)
  | ls (ds : List D)
  | dc (kvs : List (D × D))
  | lst (os : List O)
  | tup (os : List O)
  deriving Inhabited
mutual
def O.er : O → D
  | .im d => d
  | .ls ds => .lst ds
  | .dc kvs => .dct kvs
  | .lst os => .lst (O.ers os)
  | .tup os => .tup (O.ers os)
def O.ers : List O → List D
  | [] => []
  | o :: os => O.er o :: O.ers os
end
/-- all plain -/
def O.ims : List O → Option (List D)
  | [] => some []
  | .im d :: os => match O.ims os with
    | some ds => some (d :: ds)
    | none => none
  | _ :: _ => none

abbrev Env := Nat → Option O
def up (ε : Env) (i : Nat) (o : O) : Env := fun j => if j = i then some o else ε j

inductive Res (α : Type) where
  | ok (a : α) (ε : Env)
  | exc (c : Nat) (v : D) (ε : Env)
  | bad
def Res.bind {α β : Type} (r : Res α) (f : α → Env → Res β) : Res β := match r with
  | .ok a ε => f a ε
  | .exc c v ε => .exc c v ε
  | .bad => .bad

/-! ### the language -/
inductive Prim where
  | add | sub | mul | fdiv | mod | pow | neg
  | eq | ne | lt | le | gt | ge | is_ | isn | in_ | nin
  | idx | slc (lo hi : Bool)
  | len | isi | int1 | list1 | tuple1 | sorted1 | max1 | min1 | max2 | min2 | sum1 | sum2 | abs1 | repr1 | str1 | lrng | trng | bitlen | index | count | get1 | get2 | all1 | sset
  deriving DecidableEq, Inhabited

inductive Cst where
  | non | bl (b : Bool) | int (i : Int) | str (s : Str)
  deriving Inhabited
def Cst.d : Cst → D
  | .non => .non
  | .bl b => .bl b
  | .int i => .int i
  | .str s => .str s

inductive Gl where
  | fn (f : Nat) | ty (n : String) | cls (c : Nat) | int (x : Nat) (i : Int)
  deriving Inhabited
def Gl.d : Gl → D
  | .fn f => .fn f
  | .ty n => .ty n
  | .cls c => .cls c
  | .int _ i => .int i

inductive Tg where
  | name (i : Nat)
  | tup (ts : List Tg)
  deriving Inhabited

inductive Ex where
  | cst (c : Cst)
  | var (i : Nat)
  | gl (g : Gl)
  | tup (es : List Ex)
  | lst (es : List Ex)
  | pr (p : Prim) (es : List Ex)
  | mth (p : Prim) (a : Ex) (es : List Ex)
  | chain (p q : Prim) (a b c : Ex)
  | not (a : Ex)
  | and (es : List Ex)
  | or (es : List Ex)
  | ite (c a b : Ex)
  | call (f : Nat) (es : List Ex)
  | callk (f : Nat) (es : List Ex) (ks : List Nat)
  | callv (i : Nat) (es : List Ex)
  | lc (e : Ex) (tg : Tg) (it : Ex) (ifs : List Ex) (own : List Nat)
  | rng (es : List Ex)
  | enm (e : Ex)
  | app (i : Nat) (e : Ex)
  | pop (i : Nat) (es : List Ex)
  | dict (ks vs : List Ex)
  | attr (e : Ex)
  | bor (m : List Nat) (e : Ex)
  | sl2 (a b c : Ex)
  | appAt (i : Nat) (ps : List Ex) (e : Ex)
  deriving Inhabited

inductive St where
  | asg (t : Tg) (e : Ex)
  | par (is : List Nat) (es : List Ex)
  | setix (i : Nat) (k e : Ex)
  | exp (e : Ex)
  | ret (e : Ex)
  | retN
  | ite (c : Ex) (a b : List St)
  | for_ (t : Tg) (it : Ex) (b : List St)
  | whl (c : Ex) (b : List St)
  | rse (c : Nat) (e : Ex)
  | tryM (e : Ex) (c : Nat) (m i : Nat)
  | pass
  deriving Inhabited

/-! ### built-in operations on data -/
def ixN (n : Nat) (i : Int) : Option Nat := L2.ixN n i
def cutD (xs : List D) (lo hi : Option Int) : List D := (xs.drop (HT.sIx xs.length 0 lo)).take (HT.sIx xs.length xs.length hi - HT.sIx xs.length 0 lo)
def dints : List D → Option (List Int)
  | [] => some []
  | .int i :: ds => match dints ds with
    | some is => some (i :: is)
    | none => none
  | _ :: _ => none
def dlsts : List D → Option (List D)
  | [] => some []
  | .lst xs :: ds => match dlsts ds with
    | some r => some (xs ++ r)
    | none => none
  | _ :: _ => none
def maxL : List Int → Option Int
  | [] => none
  | x :: xs => some (xs.foldl (fun m y => if y > m then y else m) x)
def minL : List Int → Option Int
  | [] => none
  | x :: xs => some (xs.foldl (fun m y => if y < m then y else m) x)
def sortOk (ds : List D) : Bool :=
  ds.all (fun d => D.okD d 60) && (ds.all fun d => ds.all fun e => W.alike d.py e.py) &&
    ((ds.all fun d => match d with | .tup (_ :: _) => true | _ => false) || (ds.all fun d => match d with | .non => false | .tup _ => false | .int _ => true | .bl _ => true | .str _ => true | .lst _ => true | _ => false))
def sortD (ds : List D) : List D := ds.mergeSort (W.dataLe false D.py)
def D.tyN : D → Option String
  | .non => some "NoneType"
  | .bl _ => some "bool"
  | .int _ => some "int"
  | .str _ => some "str"
  | .lst _ => some "list"
  | .tup _ => some "tuple"
  | _ => none
/-- what isinstance says of two built-in classes -/
def tyB (t n : String) : Option Bool := if ["int", "bool", "str", "list", "tuple", "dict"].contains n then some (t == n || (t == "bool" && n == "int")) else none
def isTy (n : String) (d : D) : Option Bool := match d.tyN with
  | some t => tyB t n
  | none => none
def isTys : List D → D → Option Bool
  | [], _ => some false
  | .ty n :: r, d => match isTy n d with
    | some a => match isTys r d with
      | some b => some (a || b)
      | none => none
    | none => none
  | _ :: _, _ => none
def keyD : D → Bool
  | .int _ => true
  | .str _ => true
  | .tup xs => xs.all fun x => match x with | .int _ => true | .str _ => true | _ => false
  | _ => false
def getK (kvs : List (D × D)) (k : D) : Option D := match kvs with
  | [] => none
  | (k', v) :: r => if D.eqv k' k then some v else getK r k
def putK (kvs : List (D × D)) (k v : D) : List (D × D) := match kvs with
  | [] => [(k, v)]
  | (k', v') :: r => if D.eqv k' k then (k', v) :: r else (k', v') :: putK r k v
def rngD (lo : Int) (n : Nat) : List D := (List.range n).map fun (i : Nat) => D.int (lo + (i : Int))

def big (i : Int) : Bool := decide (i.natAbs.log2 < 400000)
def p_add : List D → Option O
  | [.int i, .int j] => some (.im (.int (i + j)))
  | [.lst xs, .lst ys] => if xs.length + ys.length ≤ 16777216 then some (.ls (xs ++ ys)) else none
  | [.str x, .str y] => if x.length + y.length ≤ 16777216 then some (.im (.str (x ++ y))) else none
  | _ => none
def p_sub : List D → Option O
  | [.int i, .int j] => some (.im (.int (i - j)))
  | _ => none
def p_mul : List D → Option O
  | [.int i, .int j] => if big i && big j then some (.im (.int (i * j))) else none
  | [.lst xs, .int k] => if -(2 ^ 63) ≤ k ∧ k < 2 ^ 63 ∧ xs.length * k.toNat ≤ 16777216 then some (.ls (List.replicate k.toNat xs).flatten) else none
  | _ => none
def p_fdiv : List D → Option O
  | [.int i, .int j] => if 0 < j ∧ j.natAbs.log2 < 9000 then some (.im (.int (i / j))) else none
  | _ => none
def p_mod : List D → Option O
  | [.int i, .int j] => if 0 < j then some (.im (.int (i % j))) else none
  | _ => none
def p_pow : List D → Option O
  | [.int i, .int j] => if 0 ≤ j ∧ (i.natAbs.log2 + 1) * j.toNat ≤ 100000 then some (.im (.int (i ^ j.toNat))) else none
  | _ => none
def p_neg : List D → Option O
  | [.int i] => some (.im (.int (-i)))
  | _ => none
def p_eq0 : D → D → Option O
  | .lst xs, .lst [] => some (.im (.bl xs.isEmpty))
  | _, _ => none
def p_ne0 : D → D → Option O
  | .lst xs, .lst [] => some (.im (.bl (!xs.isEmpty)))
  | _, _ => none
def p_eq : List D → Option O
  | [d, e] => if D.okD d 60 && D.okD e 60 then some (.im (.bl (D.eqv d e))) else p_eq0 d e
  | _ => none
def p_ne : List D → Option O
  | [d, e] => if D.okD d 60 && D.okD e 60 then some (.im (.bl (!D.eqv d e))) else p_ne0 d e
  | _ => none
def p_lt : List D → Option O
  | [.int i, .int j] => some (.im (.bl (decide (i < j))))
  | _ => none
def p_le : List D → Option O
  | [.int i, .int j] => some (.im (.bl (decide (i ≤ j))))
  | _ => none
def p_gt : List D → Option O
  | [.int i, .int j] => some (.im (.bl (decide (j < i))))
  | _ => none
def p_ge : List D → Option O
  | [.int i, .int j] => some (.im (.bl (decide (j ≤ i))))
  | _ => none
def D.isN : D → Bool
  | .non => true
  | _ => false
def D.isB (b : Bool) : D → Bool
  | .bl c => c == b
  | _ => false
def p_is_ : List D → Option O
  | [d, .non] => some (.im (.bl d.isN))
  | [d, .bl b] => some (.im (.bl (d.isB b)))
  | _ => none
def p_isn : List D → Option O
  | [d, .non] => some (.im (.bl (!d.isN)))
  | _ => none
def p_in_ : List D → Option O
  | [d, .lst xs] => if D.okD d 60 && D.okDs xs 60 then some (.im (.bl (xs.any fun z => D.eqv z d))) else none
  | [d, .tup xs] => if D.okD d 0 && xs.all (fun z => D.okD z 0) then some (.im (.bl (xs.any fun z => D.eqv z d))) else none
  | [d, .dct kvs] => if keyD d then some (.im (.bl (getK kvs d).isSome)) else none
  | _ => none
def p_nin : List D → Option O
  | [d, .lst xs] => if D.okD d 60 && D.okDs xs 60 then some (.im (.bl (!xs.any fun z => D.eqv z d))) else none
  | [d, .tup xs] => if D.okD d 0 && xs.all (fun z => D.okD z 0) then some (.im (.bl (!xs.any fun z => D.eqv z d))) else none
  | [d, .dct kvs] => if keyD d then some (.im (.bl (getK kvs d).isNone)) else none
  | _ => none
def p_idx : List D → Option O
  | [.lst xs, .int i] => match L2.atI xs i with
    | some d => some (.im d)
    | none => none
  | [.tup xs, .int i] => match L2.atI xs i with
    | some d => some (.im d)
    | none => none
  | [.scr ns, .int i] => match L2.atI ns i with
    | some d => some (.im (.int d))
    | none => none
  | [.dct kvs, k] => if keyD k then match getK kvs k with
      | some d => some (.im d)
      | none => none
    else none
  | _ => none
def p_slc (lo hi : Bool) : List D → Option O
  | .lst xs :: r => match lo, hi, r with
    | true, true, [.int i, .int j] => some (.ls (cutD xs (some i) (some j)))
    | true, false, [.int i] => some (.ls (cutD xs (some i) none))
    | false, true, [.int j] => some (.ls (cutD xs none (some j)))
    | false, false, [] => some (.ls (cutD xs none none))
    | _, _, _ => none
  | [.scr ns, .int j] => match lo, hi with
    | false, true => some (.ls (cutD (ns.map D.int) none (some j)))
    | _, _ => none
  | _ => none
def p_len : List D → Option O
  | [.lst xs] => some (.im (.int xs.length))
  | [.tup xs] => some (.im (.int xs.length))
  | [.dct xs] => some (.im (.int xs.length))
  | [.scr xs] => some (.im (.int xs.length))
  | [.str x] => if x.length ≤ 16777216 then some (.im (.int x.length)) else none
  | _ => none
def p_isi : List D → Option O
  | [d, .ty n] => match isTy n d with
    | some b => some (.im (.bl b))
    | none => none
  | [d, .tup ts] => match d.tyN, isTys ts d with
    | some _, some b => some (.im (.bl b))
    | _, _ => none
  | [.exc c _, .cls k] => some (.im (.bl (c == k)))
  | _ => none
def p_int1 : List D → Option O
  | [.int i] => some (.im (.int i))
  | [.bl b] => some (.im (.int (if b then 1 else 0)))
  | _ => none
def p_list1 : List D → Option O
  | [.lst xs] => some (.ls xs)
  | [.tup xs] => some (.ls xs)
  | _ => none
def p_tuple1 : List D → Option O
  | [.lst xs] => some (.im (.tup xs))
  | [.tup xs] => some (.im (.tup xs))
  | _ => none
def p_sorted1 : List D → Option O
  | [.lst xs] => if sortOk xs then some (.ls (sortD xs)) else none
  | _ => none
def p_max1 : List D → Option O
  | [.lst xs] => match dints xs with
    | some ns => (maxL ns).map fun m => .im (.int m)
    | none => none
  | _ => none
def p_min1 : List D → Option O
  | [.lst xs] => match dints xs with
    | some ns => (minL ns).map fun m => .im (.int m)
    | none => none
  | _ => none
def p_max2 : List D → Option O
  | [.int i, .int j] => some (.im (.int (if j > i then j else i)))
  | _ => none
def p_min2 : List D → Option O
  | [.int i, .int j] => some (.im (.int (if j < i then j else i)))
  | _ => none
def p_sum1 : List D → Option O
  | [.lst xs] => match dints xs with
    | some ns => some (.im (.int ns.sum))
    | none => none
  | [.tup xs] => match dints xs with
    | some ns => some (.im (.int ns.sum))
    | none => none
  | _ => none
def p_sum2 : List D → Option O
  | [.lst (x :: xs), .lst []] => match dlsts (x :: xs) with
    | some ds => if ds.length ≤ 16777216 then some (.ls ds) else none
    | none => none
  | _ => none
def p_abs1 : List D → Option O
  | [.int i] => some (.im (.int (if i < 0 then -i else i)))
  | _ => none
def p_repr1 : List D → Option O
  | [d] => if D.okD d 60 && d.py.showable && decide (d.py.shown.length ≤ 16777216) then some (.im (.str d.py.shown)) else none
  | _ => none
def p_lrng : List D → Option O
  | [.int j] => if 0 ≤ j ∧ j ≤ 16777216 then some (.ls (rngD 0 j.toNat)) else none
  | _ => none
def p_trng : List D → Option O
  | [.int j] => if 0 ≤ j ∧ j ≤ 16777216 then some (.im (.tup (rngD 0 j.toNat))) else none
  | _ => none
def p_index : List D → Option O
  | [.lst xs, d] => if D.okD d 0 && xs.all (fun z => D.okD z 0) then match xs.findIdx? (fun z => D.eqv z d) with
      | some j => some (.im (.int j))
      | none => none
    else none
  | _ => none
def p_count : List D → Option O
  | [.lst xs, d] => match dints xs, d with
    | some ns, .int k => some (.im (.int (ns.count k)))
    | _, _ => none
  | _ => none
def p_get2 : List D → Option O
  | [.dct kvs, k, x] => if keyD k then some (.im ((getK kvs k).getD x)) else none
  | _ => none
def p_get1 : List D → Option O
  | [.dct kvs, k] => if keyD k then some (.im ((getK kvs k).getD .non)) else none
  | _ => none
def p_bitlen : List D → Option O
  | [.int i] => some (.im (.int (if i = 0 then 0 else i.natAbs.log2 + 1)))
  | _ => none
def prim (p : Prim) (ds : List D) : Option O := match p with
  | .add => p_add ds
  | .sub => p_sub ds
  | .mul => p_mul ds
  | .fdiv => p_fdiv ds
  | .mod => p_mod ds
  | .pow => p_pow ds
  | .neg => p_neg ds
  | .eq => p_eq ds
  | .ne => p_ne ds
  | .lt => p_lt ds
  | .le => p_le ds
  | .gt => p_gt ds
  | .ge => p_ge ds
  | .is_ => p_is_ ds
  | .isn => p_isn ds
  | .in_ => p_in_ ds
  | .nin => p_nin ds
  | .idx => p_idx ds
  | .slc lo hi => p_slc lo hi ds
  | .len => p_len ds
  | .isi => p_isi ds
  | .int1 => p_int1 ds
  | .list1 => p_list1 ds
  | .tuple1 => p_tuple1 ds
  | .sorted1 => p_sorted1 ds
  | .max1 => p_max1 ds
  | .min1 => p_min1 ds
  | .max2 => p_max2 ds
  | .min2 => p_min2 ds
  | .sum1 => p_sum1 ds
  | .sum2 => p_sum2 ds
  | .abs1 => p_abs1 ds
  | .repr1 => p_repr1 ds
  | .lrng => p_lrng ds
  | .trng => p_trng ds
  | .index => p_index ds
  | .count => p_count ds
  | .get2 => p_get2 ds
  | .get1 => p_get1 ds
  | .bitlen => p_bitlen ds
  | _ => none

/-! ### the evaluator -/
inductive COut where
  | ret (o : O) (fin : List O)
  | exc (c : Nat) (v : D) (fin : List O)
  | bad
  deriving Inhabited
inductive Hn where
  | slot (i : Nat)
  | val (o : O)
inductive Fl where
  | next
  | ret (o : O)

mutual
def bindT (mp : List Nat) : Tg → O → Env → Option Env
  | .name i, o, ε => if mp.contains i then none else some (up ε i o)
  | .tup ts, .im (.tup ds), ε => bindTs mp ts (ds.map O.im) ε
  | .tup ts, .tup os, ε => bindTs mp ts os ε
  | .tup _, _, _ => none
def bindTs (mp : List Nat) : List Tg → List O → Env → Option Env
  | [], [], ε => some ε
  | t :: ts, o :: os, ε => match bindT mp t o ε with
    | some ε' => bindTs mp ts os ε'
    | none => none
  | _, _, _ => none
end
/-- what a handle shows: a list of one's own stays one's own, its items do not -/
def rd (ε : Env) : Hn → Option (D × Env)
  | .val o => some (o.er, ε)
  | .slot i => match ε i with
    | some (.im d) => some (d, ε)
    | some (.ls ds) => some (.lst ds, ε)
    | some (.dc kvs) => some (.dct kvs, ε)
    | some (.lst os) => some (.lst (O.ers os), up ε i (.ls (O.ers os)))
    | some (.tup os) => some (.tup (O.ers os), up ε i (.im (.tup (O.ers os))))
    | none => none
def rds (ε : Env) : List Hn → Option (List D × Env)
  | [] => some ([], ε)
  | h :: hs => match rd ε h with
    | some (d, ε1) => match rds ε1 hs with
      | some (ds, ε2) => some (d :: ds, ε2)
      | none => none
    | none => none
/-- .. where what is shown is kept by another for good -/
def rdF (ε : Env) : Hn → Option (D × Env)
  | .val o => some (o.er, ε)
  | .slot i => match ε i with
    | some (.im d) => some (d, ε)
    | some o => some (o.er, up ε i (.im o.er))
    | none => none
def wipe (own : List Nat) (ε : Env) : Env := fun i => if own.contains i then none else ε i
def unwipe (own : List Nat) (ε0 ε : Env) : Env := fun i => if own.contains i then (ε0 i).map (fun o => .im o.er) else ε i
/-- a call's arguments: (what is handed in, slots that are handed in to be changed, slots of one's own that are shown) -/
def callArgs (ε : Env) (m : List Nat) : Nat → List Hn → Option (List O × List Nat × List Nat × Env)
  | _, [] => some ([], [], [], ε)
  | j, h :: hs => if m.contains j then match h with
      | .slot i => match ε i with
        | some o => match callArgs ε m (j + 1) hs with
          | some (os, ms, bs, ε2) => some (o :: os, i :: ms, bs, ε2)
          | none => none
        | none => none
      | .val _ => none
    else match rd ε h with
      | some (d, ε1) => match callArgs ε1 m (j + 1) hs with
        | some (os, ms, bs, ε2) => some (.im d :: os, ms, (match h with
          | .slot i => (match ε i with
            | some (.im _) => bs
            | _ => i :: bs)
          | .val _ => bs), ε2)
        | none => none
      | none => none
mutual
def O.flat : O → Bool
  | .im d => d.flat
  | .ls ds => D.flats ds
  | .dc kvs => kvs.all fun p => p.1.flat && p.2.flat
  | .lst os => O.flats os
  | .tup os => O.flats os
def O.flats : List O → Bool
  | [] => true
  | o :: os => O.flat o && O.flats os
end
def ups (ε : Env) : List Nat → List O → Option Env
  | [], [] => some ε
  | i :: is, o :: os => ups (up ε i o) is os
  | _, _ => none
def freeze (bs : List Nat) (ε : Env) : Env := fun i => if bs.contains i then (ε i).map (fun o => .im o.er) else ε i
def okArgs (ms bs : List Nat) : Bool := match ms with
  | [] => true
  | m :: r => !(r.contains m) && !(bs.contains m) && okArgs r bs
def ended (c : COut) (ms bs : List Nat) (ε : Env) : Res O := match c with
  | .ret o fin => match ups ε ms fin with
    | some ε1 => if bs.isEmpty || (o.flat && O.flats fin) then .ok o ε1 else .ok o (freeze bs ε1)
    | none => .bad
  | .exc c v fin => match ups ε ms fin with
    | some ε1 => if bs.isEmpty || (v.flat && O.flats fin) then .exc c v ε1 else .exc c v (freeze bs ε1)
    | none => .bad
  | .bad => .bad
def doCall (cl : Nat → List O → COut) (sg : Nat → List Nat) (f : Nat) (hs : List Hn) (ε : Env) : Res O := match callArgs ε (sg f) 0 hs with
  | some (os, ms, bs, ε1) => if okArgs ms bs then ended (cl f os) ms bs ε1 else .bad
  | none => .bad
/-- the items that a for walks -/
def items : D → Option (List D)
  | .lst xs => some xs
  | .tup xs => some xs
  | _ => none
def enumD : Nat → List D → List D
  | _, [] => []
  | i, d :: ds => .tup [.int i, d] :: enumD (i + 1) ds
def forIt (step : D → Env → Res Fl) : List D → Env → Res Fl
  | [], ε => .ok .next ε
  | x :: xs, ε => match step x ε with
    | .ok .next ε1 => forIt step xs ε1
    | r => r
def lcIt (step : D → Env → Res (Option O)) : List D → Env → Res (List O)
  | [], ε => .ok [] ε
  | x :: xs, ε => match step x ε with
    | .ok r ε1 => match lcIt step xs ε1 with
      | .ok os ε2 => .ok (match r with
        | some o => o :: os
        | none => os) ε2
      | .exc _ _ _ => .bad
      | .bad => .bad
    | .exc _ _ _ => .bad
    | .bad => .bad
def whlIt (c : Env → Res Bool) (b : Env → Res Fl) : Nat → Env → Res Fl
  | 0, _ => .bad
  | n + 1, ε => match c ε with
    | .ok true ε1 => match b ε1 with
      | .ok .next ε2 => whlIt c b n ε2
      | r => r
    | .ok false ε1 => .ok .next ε1
    | .exc k v ε1 => .exc k v ε1
    | .bad => .bad
/-- the value of a name where another may keep it -/
def take (ε : Env) (i : Nat) : Res O := match ε i with
  | some (.im d) => .ok (.im d) ε
  | some o => .ok (.im o.er) (up ε i (.im o.er))
  | none => .bad
def mk (f : List D → O) (g : List O → O) (os : List O) : O := match O.ims os with
  | some ds => f ds
  | none => g os
def appTo (ε : Env) (i : Nat) (o : O) : Res O := match ε i with
  | some (.ls ds) => if ds.length < 16777216 then .ok (.im .non) (up ε i (.ls (ds ++ [o.er]))) else .bad
  | some (.lst os) => if os.length < 16777216 then .ok (.im .non) (up ε i (.ls (O.ers os ++ [o.er]))) else .bad
  | _ => .bad
def setTo (ε : Env) (i : Nat) (k : D) (o : O) : Res Fl := match ε i, k with
  | some (.ls ds), .int z => match ixN ds.length z with
    | some j => .ok .next (up ε i (.ls (ds.set j o.er)))
    | none => .bad
  | some (.lst os), .int z => match ixN os.length z with
    | some j => .ok .next (up ε i (.ls ((O.ers os).set j o.er)))
    | none => .bad
  | some (.dc kvs), k => if keyD k && decide (kvs.length < 16777216) then .ok .next (up ε i (.dc (putK kvs k o.er))) else .bad
  | _, _ => .bad
def popOf (ε : Env) (i : Nat) (ks : List D) : Res O := match ε i, ks with
  | some (.ls ds), [] => match ds.getLast? with
    | some d => .ok (.im d) (up ε i (.ls ds.dropLast))
    | none => .bad
  | some (.ls ds), [.int z] => if ds.length ≤ 16777216 then match ixN ds.length z with
      | some j => match ds[j]? with
        | some d => .ok (.im d) (up ε i (.ls (ds.eraseIdx j)))
        | none => .bad
      | none => .bad
    else .bad
  | _, _ => .bad

def hnIm : Hn → Bool
  | .slot _ => true
  | .val (.im _) => true
  | _ => false
/-- nothing at an address -/
def D.scal : D → Bool
  | .non => true
  | .bl _ => true
  | .int _ => true
  | .str _ => true
  | .fn _ => true
  | .ty _ => true
  | .cls _ => true
  | _ => false
/-- shown to others but for the names m -/
def froz (m : List Nat) (ε : Env) : Env := fun i => if m.contains i then ε i else (ε i).map (fun o => .im o.er)
def unfroz (m : List Nat) (ε ε1 : Env) : Env := fun i => if m.contains i then ε1 i else ε i
def scals (m : List Nat) (ε : Env) : Bool := m.all fun i => match ε i with
  | some (.im d) => d.scal
  | some (.ls ds) => ds.all D.scal
  | _ => false
def clr (i : Nat) (ε : Env) : Env := fun j => if j = i then none else ε j
/-- a value put behind the list at a place in a tree -/
def appIn : List Int → D → O → Option O
  | [], d, .ls ds => if ds.length < 16777216 then some (.ls (ds ++ [d])) else none
  | k :: ks, d, .lst os => match ixN os.length k with
    | some j => match os[j]? with
      | some o => match appIn ks d o with
        | some o' => some (.lst (os.set j o'))
        | none => none
      | none => none
    | none => none
  | k :: ks, d, .tup os => match ixN os.length k with
    | some j => match os[j]? with
      | some o => match appIn ks d o with
        | some o' => some (.tup (os.set j o'))
        | none => none
      | none => none
    | none => none
  | _, _, _ => none

/-- a constant or a name's plain value -/
def rdv (ε : Env) : Ex → Option D
  | .cst c => some c.d
  | .var j => match ε j with
    | some (.im d) => some d
    | _ => none
  | _ => none
def rdvs (ε : Env) : List Ex → Option (List Int)
  | [] => some []
  | e :: es => match rdv ε e, rdvs ε es with
    | some (.int k), some ks => some (k :: ks)
    | _, _ => none
/-- a list -/
def hList (ε : Env) : Hn → Bool
  | .val o => match o.er with
    | .lst _ => true
    | _ => false
  | .slot i => match ε i with
    | some (.im (.lst _)) => true
    | some (.ls _) => true
    | some (.lst _) => true
    | _ => false

section
variable (cl : Nat → List O → COut) (sg : Nat → List Nat) (mp : List Nat)
mutual
def evE : Ex → Env → Res O
  | .cst c, ε => .ok (.im c.d) ε
  | .var i, ε => take ε i
  | .gl g, ε => .ok (.im g.d) ε
  | .tup es, ε => (evEs es ε).bind fun os ε1 => .ok (mk (fun ds => .im (.tup ds)) .tup os) ε1
  | .lst es, ε => (evEs es ε).bind fun os ε1 => .ok (mk .ls .lst os) ε1
  | .pr p es, ε => (evHs es ε).bind fun hs ε1 => match rds ε1 hs with
    | some (ds, ε2) => match prim p ds with
      | some o => .ok o ε2
      | none => .bad
    | none => .bad
  | .mth p a es, ε => (evH a ε).bind fun ha ε1 => if hList ε1 ha then (evHs es ε1).bind fun hs ε2 => match rds ε2 (ha :: hs) with
      | some (ds, ε3) => match prim p ds with
        | some o => .ok o ε3
        | none => .bad
      | none => .bad
    else .bad
  | .sl2 a b c, ε => (evH a ε).bind fun ha ε1 => (evH b ε1).bind fun hb ε2 => match hb with
    | .val (.im (.int _)) => (evH c ε2).bind fun hc ε3 => match rds ε3 [ha, hb, hc] with
      | some (ds, ε4) => match p_slc true true ds with
        | some o => .ok o ε4
        | none => .bad
      | none => .bad
    | _ => .bad
  | .chain p q a b c, ε => (evH a ε).bind fun ha ε1 => (evH b ε1).bind fun hb ε2 => if !hnIm hb then .bad else match rds ε2 [ha, hb] with
    | some (ds, ε3) => match prim p ds with
      | some (.im (.bl true)) => (evH c ε3).bind fun hc ε4 => match rds ε4 [hb, hc] with
        | some (ds, ε5) => match prim q ds with
          | some o => .ok o ε5
          | none => .bad
        | none => .bad
      | some (.im (.bl false)) => .ok (.im (.bl false)) ε3
      | _ => .bad
    | none => .bad
  | .not a, ε => (evE a ε).bind fun o ε1 => match o with
    | .im (.bl b) => .ok (.im (.bl (!b))) ε1
    | _ => .bad
  | .and es, ε => evAnd es ε
  | .or es, ε => evOr es ε
  | .ite c a b, ε => (evT c ε).bind fun k ε1 => match k with
    | true => evE a ε1
    | false => evE b ε1
  | .call f es, ε => (evHs es ε).bind fun hs ε1 => doCall cl sg f hs ε1
  | .callk f es ks, ε => (evHs es ε).bind fun hs ε1 => doCall cl sg f (ks.filterMap fun k => hs[k]?) ε1
  | .callv i es, ε => match ε i with
    | some (.im (.fn f)) => if (sg f).isEmpty then (evHs es ε).bind fun hs ε1 => doCall cl sg f hs ε1 else .bad
    | _ => .bad
  | .lc e tg it ifs own, ε => (evIt it ε).bind fun xs ε1 => if 16777216 < xs.length then .bad else
    (lcIt (fun x ε => match bindT [] tg (.im x) (wipe own ε) with
      | some ε2 => (evTs ifs ε2).bind fun k ε3 => match k with
        | true => (evE e ε3).bind fun o ε4 => .ok (some o) ε4
        | false => .ok none ε3
      | none => .bad) xs (wipe own ε1)).bind fun os ε5 => .ok (mk .ls .lst os) (unwipe own ε1 ε5)
  | .rng _, _ => .bad
  | .enm _, _ => .bad
  | .app i e, ε => if hList ε (.slot i) then (evE e ε).bind fun o ε1 => appTo ε1 i o else .bad
  | .pop i es, ε => if hList ε (.slot i) then (evHs es ε).bind fun hs ε1 => match rds ε1 hs with
    | some (ds, ε2) => popOf ε2 i ds
    | none => .bad
  else .bad
  | .dict ks vs, ε => (evEs ks ε).bind fun ko ε1 => (evEs vs ε1).bind fun vo ε2 => if (O.ers ko).all keyD then .ok (.dc (((O.ers ko).zip (O.ers vo)).foldl (fun m p => putK m p.1 p.2) [])) ε2 else .bad
  | .attr e, ε => (evE e ε).bind fun o ε1 => match o with
    | .im (.exc _ v) => .ok (.im v) ε1
    | _ => .bad
  | .bor m e, ε => match evE e (froz m ε) with
    | .ok (.im d) ε1 => if d.scal && scals m ε1 then .ok (.im d) (unfroz m ε ε1) else .bad
    | .ok _ _ => .bad
    | .exc c v ε1 => .exc c v ε1
    | .bad => .bad
  | .appAt i ps e, ε => match rdvs ε ps, rdv ε e, ε i with
    | some is, some d, some t => match appIn is d t with
      | some t' => .ok (.im .non) (up ε i t')
      | none => .bad
    | _, _, _ => .bad
def evH : Ex → Env → Res Hn
  | .var i, ε => match ε i with
    | some _ => .ok (.slot i) ε
    | none => .bad
  | .cst c, ε => .ok (.val (.im c.d)) ε
  | e, ε => (evE e ε).bind fun o ε1 => .ok (.val o) ε1
def evHs : List Ex → Env → Res (List Hn)
  | [], ε => .ok [] ε
  | e :: es, ε => (evH e ε).bind fun h ε1 => (evHs es ε1).bind fun hs ε2 => .ok (h :: hs) ε2
def evEs : List Ex → Env → Res (List O)
  | [], ε => .ok [] ε
  | e :: es, ε => (evE e ε).bind fun o ε1 => (evEs es ε1).bind fun os ε2 => .ok (o :: os) ε2
def evAnd : List Ex → Env → Res O
  | [], _ => .bad
  | [e], ε => evE e ε
  | e :: es, ε => (evE e ε).bind fun o ε1 => match o with
    | .im (.bl true) => evAnd es ε1
    | .im (.bl false) => .ok (.im (.bl false)) ε1
    | _ => .bad
def evOr : List Ex → Env → Res O
  | [], _ => .bad
  | [e], ε => evE e ε
  | e :: es, ε => (evE e ε).bind fun o ε1 => match o with
    | .im (.bl false) => evOr es ε1
    | .im (.bl true) => .ok (.im (.bl true)) ε1
    | _ => .bad
def evT : Ex → Env → Res Bool
  | .not a, ε => (evT a ε).bind fun b ε1 => .ok (!b) ε1
  | .and es, ε => evTs es ε
  | .or es, ε => evTo es ε
  | .ite c a b, ε => (evT c ε).bind fun k ε1 => match k with
    | true => evT a ε1
    | false => evT b ε1
  | .bor m e, ε => match evT e (froz m ε) with
    | .ok k ε1 => if scals m ε1 then .ok k (unfroz m ε ε1) else .bad
    | .exc c v ε1 => .exc c v ε1
    | .bad => .bad
  | e, ε => (evE e ε).bind fun o ε1 => match o with
    | .im (.bl b) => .ok b ε1
    | _ => .bad
def evTs : List Ex → Env → Res Bool
  | [], ε => .ok true ε
  | e :: es, ε => (evT e ε).bind fun b ε1 => match b with
    | true => evTs es ε1
    | false => .ok false ε1
def evTo : List Ex → Env → Res Bool
  | [], ε => .ok false ε
  | e :: es, ε => (evT e ε).bind fun b ε1 => match b with
    | true => .ok true ε1
    | false => evTo es ε1
def evIt : Ex → Env → Res (List D)
  | .rng es, ε => (evHs es ε).bind fun hs ε1 => match rds ε1 hs with
    | some ([.int j], ε2) => if -16777216 ≤ j ∧ j ≤ 16777216 then .ok (rngD 0 j.toNat) ε2 else .bad
    | some ([.int i, .int j], ε2) => if -16777216 ≤ i ∧ i ≤ 16777216 ∧ j ≤ 16777216 ∧ -16777216 ≤ j then .ok (rngD i (j - i).toNat) ε2 else .bad
    | _ => .bad
  | .enm e, ε => (evH e ε).bind fun h ε1 => match rdF ε1 h with
    | some (.lst xs, ε2) => .ok (enumD 0 xs) ε2
    | _ => .bad
  | e, ε => (evH e ε).bind fun h ε1 => match rdF ε1 h with
    | some (d, ε2) => match items d with
      | some xs => .ok xs ε2
      | none => .bad
    | none => .bad
end
def W : Nat := 1000000
mutual
def evS : St → Env → Res Fl
  | .asg t e, ε => (evE cl sg e ε).bind fun o ε1 => match bindT mp t o ε1 with
    | some ε2 => .ok .next ε2
    | none => .bad
  | .par is es, ε => (evEs cl sg es ε).bind fun os ε1 => match bindTs mp (is.map Tg.name) os ε1 with
    | some ε2 => .ok .next ε2
    | none => .bad
  | .setix i k e, ε => (evE cl sg e ε).bind fun o ε1 => if hList ε1 (.slot i) then (evH cl sg k ε1).bind fun hk ε2 => match rd ε2 hk with
    | some (d, ε3) => setTo ε3 i d o
    | none => .bad
  else .bad
  | .exp e, ε => (evE cl sg e ε).bind fun _ ε1 => .ok .next ε1
  | .ret e, ε => match e with
    | .var i => if mp.contains i then .bad else match ε i with
      | some o => .ok (.ret o) ε
      | none => .bad
    | e => (evE cl sg e ε).bind fun o ε1 => .ok (.ret o) ε1
  | .retN, ε => .ok (.ret (.im .non)) ε
  | .ite c a b, ε => (evT cl sg c ε).bind fun k ε1 => match k with
    | true => evSs a ε1
    | false => evSs b ε1
  | .for_ t it b, ε => (evIt cl sg it ε).bind fun xs ε1 => forIt (fun x ε => match bindT mp t (.im x) ε with
    | some ε2 => evSs b ε2
    | none => .bad) xs ε1
  | .whl c b, ε => whlIt (evT cl sg c) (evSs b) W ε
  | .rse c e, ε => (evE cl sg e ε).bind fun o ε1 => .exc c o.er ε1
  | .tryM e _ m i, ε => if mp.contains m || mp.contains i || m == i then .bad else match evE cl sg e ε with
    | .ok _ ε1 => .ok .next ε1
    | .exc k v ε1 => .ok .next (clr i (up ε1 m (.im (.exc k v))))
    | .bad => .bad
  | .pass, ε => .ok .next ε
def evSs : List St → Env → Res Fl
  | [], ε => .ok .next ε
  | s :: ss, ε => match evS s ε with
    | .ok .next ε1 => evSs ss ε1
    | r => r
end
end

/-! ### defs -/
structure FnDef where
  ps : Nat
  mp : List Nat
  body : List St
abbrev Tab := Nat → Option FnDef
def Tab.sg (T : Tab) (f : Nat) : List Nat := match T f with
  | some fd => fd.mp
  | none => []
def finals (ε : Env) : List Nat → Option (List O)
  | [] => some []
  | i :: is => match ε i, finals ε is with
    | some o, some os => some (o :: os)
    | _, _ => none
def outOf (mp : List Nat) (r : Res Fl) : COut := match r with
  | .ok .next ε => match finals ε mp with
    | some fin => .ret (.im .non) fin
    | none => .bad
  | .ok (.ret o) ε => match finals ε mp with
    | some fin => .ret o fin
    | none => .bad
  | .exc c v ε => match finals ε mp with
    | some fin => .exc c v fin
    | none => .bad
  | .bad => .bad
def callN (T : Tab) : Nat → Nat → List O → COut
  | 0, _, _ => .bad
  | n + 1, f, args => match T f with
    | some fd => if args.length = fd.ps then outOf fd.mp (evSs (callN T n) T.sg fd.mp fd.body fun i => args[i]?) else .bad
    | none => .bad
end Ev
end
section
set_option linter.all false
set_option maxRecDepth 100000
set_option maxHeartbeats 4000000
/-! What values stand for data; states; steps. -/
namespace Ev
open PySem L2

/-- names of defs, classes, numbers of the module -/
structure Nm where
  fn : Nat → Str
  cls : Nat → Str
  int : Nat → Str
  K : PySem.W.Frag

/-- an exception's object, caught -/
def ZE (cls : Value) (dx : Addr) (o : Obj) : Prop := o.cls = cls ∧ o.dict = some dx ∧ ∃ vs, o.data = .fields vs
section
variable (mg : Str → Option Value) (nm : Nm)
mutual
def Rep (F : Hp) : D → V → Prop
  | .non, v => v = .non
  | .bl b, v => v = .bl b
  | .int i, v => v = .int i
  | .str s, v => v = .str s
  | .lst xs, v => ∃ a vs, v = .ref a ∧ F a = some (.lst vs) ∧ Reps F xs vs
  | .tup xs, v => ∃ a vs, v = .ref a ∧ F a = some (.tup vs) ∧ Reps F xs vs
  | .dct _, _ => False
  | .scr ns, v => ∃ a, v = .ref a ∧ SqL nm.K F a (ns.map V.int)
  | .fn f, v => ∃ a, v = .ref a ∧ mg (nm.fn f) = some (.ref a)
  | .ty n, v => v = .ty n
  | .cls c, v => ∃ a, v = .ref a ∧ mg (nm.cls c) = some (.ref a)
  | .exc c d, v => ∃ a oe dx w C, v = .ref a ∧ F a = some (.ext fun h => h.get? a = some oe) ∧ mg (nm.cls c) = some (.ref C) ∧ ZE (.ref C) dx oe ∧ F dx = some (.xd [(("value" : Str), w)]) ∧ Rep F d w
def Reps (F : Hp) : List D → List V → Prop
  | [], vs => vs = []
  | d :: ds, vs => ∃ v r, vs = v :: r ∧ Rep F d v ∧ Reps F ds r
end
mutual
def Own (F H : Hp) : O → V → List Addr → Prop
  | .im d, v, S => Rep mg nm F d v ∧ S = []
  | .ls ds, v, S => ∃ a vs, v = .ref a ∧ H a = some (.lst vs) ∧ Reps mg nm F ds vs ∧ S = [a]
  | .dc _, _, _ => False
  | .lst os, v, S => ∃ a vs R, v = .ref a ∧ H a = some (.lst vs) ∧ Owns F H os vs R ∧ S = a :: R
  | .tup os, v, S => ∃ a vs R, v = .ref a ∧ H a = some (.tup vs) ∧ Owns F H os vs R ∧ S = a :: R
def Owns (F H : Hp) : List O → List V → List Addr → Prop
  | [], vs, S => vs = [] ∧ S = []
  | o :: os, vs, S => ∃ v r S1 S2, vs = v :: r ∧ Own F H o v S1 ∧ Owns F H os r S2 ∧ S = S1 ++ S2
end
end

/-- what stands in the one stands in the other -/
def Sub (F H : Hp) : Prop := ∀ a o, F a = some o → H a = some o
theorem Sub.refl {F : Hp} : Sub F F := fun _ _ h => h
theorem Sub.trans {F G H : Hp} (a : Sub F G) (b : Sub G H) : Sub F H := fun x o h => b x o (a x o h)
theorem Sub.laid {F : Hp} {p : Addr} {o : HO} (h : F p = none) : Sub F (upd F p o) := fun a u e => by rw [upd_ne (ne_of_none e h)]; exact e
theorem Sub.laid2 {F H : Hp} {p : Addr} {o : HO} (s : Sub F H) (h : F p = none) : Sub F (upd H p o) := fun a u e => by rw [upd_ne (ne_of_none e h)]; exact s _ _ e
theorem Sub.both {F H : Hp} {p : Addr} {o : HO} (s : Sub F H) : Sub (upd F p o) (upd H p o) := fun a u e => by
  by_cases q : a = p
  · subst q; rw [upd_same] at e ⊢; exact e
  · rw [upd_ne q] at e ⊢; exact s _ _ e

section
variable {mg : Str → Option Value} {nm : Nm}
mutual
theorem Rep.mono {F F' : Hp} (s : Sub F F') : ∀ (d : D) (v : V), Rep mg nm F d v → Rep mg nm F' d v
  | .non, _, h => h
  | .bl _, _, h => h
  | .int _, _, h => h
  | .str _, _, h => h
  | .lst xs, v, h => by
    obtain ⟨a, vs, e, q, r⟩ := h
    exact ⟨a, vs, e, s _ _ q, Reps.mono s xs vs r⟩
  | .tup xs, v, h => by
    obtain ⟨a, vs, e, q, r⟩ := h
    exact ⟨a, vs, e, s _ _ q, Reps.mono s xs vs r⟩
  | .dct _, _, h => h.elim
  | .scr ns, v, h => by
    obtain ⟨a, e, q⟩ := h
    refine ⟨a, e, ?_⟩
    rcases q with (q | ⟨o, q⟩) | q
    · exact .inl (.inl (s _ _ q))
    · exact .inl (.inr ⟨o, s _ _ q⟩)
    · exact .inr q
  | .fn _, _, h => h
  | .ty _, _, h => h
  | .cls _, _, h => h
  | .exc c d, v, h => by
    obtain ⟨a, oe, dx, w, C, e1, e2, e3, e4, e5, e6⟩ := h
    exact ⟨a, oe, dx, w, C, e1, s _ _ e2, e3, e4, s _ _ e5, Rep.mono s d w e6⟩
theorem Reps.mono {F F' : Hp} (s : Sub F F') : ∀ (ds : List D) (vs : List V), Reps mg nm F ds vs → Reps mg nm F' ds vs
  | [], _, h => h
  | d :: ds, vs, h => by
    obtain ⟨v, r, e, h1, h2⟩ := h
    exact ⟨v, r, e, Rep.mono s d v h1, Reps.mono s ds r h2⟩
end
theorem Reps.length {F : Hp} : ∀ {ds : List D} {vs : List V}, Reps mg nm F ds vs → vs.length = ds.length
  | [], _, h => by cases h; rfl
  | d :: ds, vs, h => by
    obtain ⟨v, r, rfl, _, h2⟩ := h
    simp [Reps.length h2]
theorem Reps.get {F : Hp} : ∀ {ds : List D} {vs : List V} {i : Nat} {d : D}, Reps mg nm F ds vs → ds[i]? = some d → ∃ v, vs[i]? = some v ∧ Rep mg nm F d v
  | [], _, _, _, h, e => by simp at e
  | d :: ds, vs, 0, _, h, e => by
    obtain ⟨v, r, rfl, h1, _⟩ := h
    simp at e; subst e
    exact ⟨v, rfl, h1⟩
  | d :: ds, vs, i + 1, _, h, e => by
    obtain ⟨v, r, rfl, _, h2⟩ := h
    obtain ⟨v', e', h'⟩ := Reps.get (i := i) h2 (by simpa using e)
    exact ⟨v', by simpa using e', h'⟩
theorem Reps.append {F : Hp} : ∀ {ds es : List D} {vs ws : List V}, Reps mg nm F ds vs → Reps mg nm F es ws → Reps mg nm F (ds ++ es) (vs ++ ws)
  | [], es, vs, ws, h, h' => by cases h; exact h'
  | d :: ds, es, vs, ws, h, h' => by
    obtain ⟨v, r, rfl, h1, h2⟩ := h
    exact ⟨v, r ++ ws, rfl, h1, Reps.append h2 h'⟩
theorem Reps.one {F : Hp} {d : D} {v : V} (h : Rep mg nm F d v) : Reps mg nm F [d] [v] := ⟨v, [], rfl, h, rfl⟩
theorem Reps.drop {F : Hp} : ∀ {ds : List D} {vs : List V} (n : Nat), Reps mg nm F ds vs → Reps mg nm F (ds.drop n) (vs.drop n)
  | _, _, 0, h => h
  | [], vs, n + 1, h => by cases h; rfl
  | d :: ds, vs, n + 1, h => by
    obtain ⟨v, r, rfl, _, h2⟩ := h
    exact Reps.drop n h2
theorem Reps.take {F : Hp} : ∀ {ds : List D} {vs : List V} (n : Nat), Reps mg nm F ds vs → Reps mg nm F (ds.take n) (vs.take n)
  | ds, vs, 0, h => by simp; exact rfl
  | [], vs, n + 1, h => by cases h; rfl
  | d :: ds, vs, n + 1, h => by
    obtain ⟨v, r, rfl, h1, h2⟩ := h
    exact ⟨v, r.take n, rfl, h1, Reps.take n h2⟩
theorem Reps.set {F : Hp} {d : D} {v : V} (h0 : Rep mg nm F d v) : ∀ {ds : List D} {vs : List V} (n : Nat), Reps mg nm F ds vs → Reps mg nm F (ds.set n d) (vs.set n v)
  | [], vs, n, h => by cases h; exact rfl
  | e :: ds, vs, 0, h => by
    obtain ⟨w, r, rfl, h1, h2⟩ := h
    exact ⟨v, r, rfl, h0, h2⟩
  | e :: ds, vs, n + 1, h => by
    obtain ⟨w, r, rfl, h1, h2⟩ := h
    exact ⟨w, r.set n v, rfl, h1, Reps.set h0 n h2⟩
theorem Reps.eraseIdx {F : Hp} : ∀ {ds : List D} {vs : List V} (n : Nat), Reps mg nm F ds vs → Reps mg nm F (ds.eraseIdx n) (vs.eraseIdx n)
  | [], vs, n, h => by cases h; exact rfl
  | e :: ds, vs, 0, h => by
    obtain ⟨w, r, rfl, h1, h2⟩ := h
    exact h2
  | e :: ds, vs, n + 1, h => by
    obtain ⟨w, r, rfl, h1, h2⟩ := h
    exact ⟨w, r.eraseIdx n, rfl, h1, Reps.eraseIdx n h2⟩
theorem Reps.dropLast {F : Hp} {ds : List D} {vs : List V} (h : Reps mg nm F ds vs) : Reps mg nm F ds.dropLast vs.dropLast := by
  rw [List.dropLast_eq_take, List.dropLast_eq_take, h.length]
  exact h.take _
theorem Reps.rep {F : Hp} {ds : List D} {vs : List V} (h : Reps mg nm F ds vs) : ∀ k : Nat, Reps mg nm F (List.replicate k ds).flatten (List.replicate k vs).flatten
  | 0 => rfl
  | k + 1 => by
    rw [List.replicate_succ, List.replicate_succ, List.flatten_cons, List.flatten_cons]
    exact h.append (Reps.rep h k)
theorem Reps.ints {F : Hp} : ∀ {ds : List D} {vs : List V} {ns : List Int}, Reps mg nm F ds vs → dints ds = some ns → vs = ns.map V.int
  | [], vs, ns, h, e => by cases h; cases e; rfl
  | d :: ds, vs, ns, h, e => by
    obtain ⟨v, r, rfl, h1, h2⟩ := h
    cases d with
    | int i =>
      unfold dints at e
      cases q : dints ds with
      | none => rw [q] at e; cases e
      | some is =>
        rw [q] at e; cases e
        have : v = .int i := h1
        rw [this, Reps.ints h2 q]; rfl
    | _ => cases e
theorem Reps.ofInts {F : Hp} : ∀ ns : List Int, Reps mg nm F (ns.map D.int) (ns.map V.int)
  | [] => rfl
  | n :: ns => ⟨.int n, ns.map V.int, rfl, rfl, Reps.ofInts ns⟩

mutual
theorem Own.mono {F F' H H' : Hp} (s : Sub F F') : ∀ (o : O) (v : V) (S : List Addr), Own mg nm F H o v S → (∀ a ∈ S, ∀ u, H a = some u → H' a = some u) → Own mg nm F' H' o v S
  | .im d, v, S, h, _ => ⟨Rep.mono s d v h.1, h.2⟩
  | .ls ds, v, S, h, k => by
    obtain ⟨a, vs, e, q, r, rfl⟩ := h
    exact ⟨a, vs, e, k a (by simp) _ q, Reps.mono s ds vs r, rfl⟩
  | .dc _, _, _, h, _ => h.elim
  | .lst os, v, S, h, k => by
    obtain ⟨a, vs, R, e, q, r, rfl⟩ := h
    exact ⟨a, vs, R, e, k a (by simp) _ q, Owns.mono s os vs R r fun b hb => k b (List.mem_cons_of_mem _ hb), rfl⟩
  | .tup os, v, S, h, k => by
    obtain ⟨a, vs, R, e, q, r, rfl⟩ := h
    exact ⟨a, vs, R, e, k a (by simp) _ q, Owns.mono s os vs R r fun b hb => k b (List.mem_cons_of_mem _ hb), rfl⟩
theorem Owns.mono {F F' H H' : Hp} (s : Sub F F') : ∀ (os : List O) (vs : List V) (S : List Addr), Owns mg nm F H os vs S → (∀ a ∈ S, ∀ u, H a = some u → H' a = some u) → Owns mg nm F' H' os vs S
  | [], _, _, h, _ => h
  | o :: os, vs, S, h, k => by
    obtain ⟨v, r, S1, S2, e, h1, h2, rfl⟩ := h
    exact ⟨v, r, S1, S2, e, Own.mono s o v S1 h1 fun a ha => k a (List.mem_append_left _ ha), Owns.mono s os r S2 h2 fun a ha => k a (List.mem_append_right _ ha), rfl⟩
end
mutual
theorem Own.dom {F H : Hp} : ∀ (o : O) (v : V) (S : List Addr), Own mg nm F H o v S → ∀ a ∈ S, ∃ u, H a = some u
  | .im d, v, S, h, a, ha => by rw [h.2] at ha; cases ha
  | .ls ds, v, S, h, a, ha => by
    obtain ⟨b, vs, e, q, r, rfl⟩ := h
    have : a = b := by simpa using ha
    subst this
    exact ⟨_, q⟩
  | .dc _, _, _, h, _, _ => h.elim
  | .lst os, v, S, h, a, ha => by
    obtain ⟨b, vs, R, e, q, r, rfl⟩ := h
    rcases List.mem_cons.mp ha with rfl | ha
    · exact ⟨_, q⟩
    · exact Owns.dom os vs R r a ha
  | .tup os, v, S, h, a, ha => by
    obtain ⟨b, vs, R, e, q, r, rfl⟩ := h
    rcases List.mem_cons.mp ha with rfl | ha
    · exact ⟨_, q⟩
    · exact Owns.dom os vs R r a ha
theorem Owns.dom {F H : Hp} : ∀ (os : List O) (vs : List V) (S : List Addr), Owns mg nm F H os vs S → ∀ a ∈ S, ∃ u, H a = some u
  | [], _, _, h, a, ha => by rw [h.2] at ha; cases ha
  | o :: os, vs, S, h, a, ha => by
    obtain ⟨v, r, S1, S2, e, h1, h2, rfl⟩ := h
    rcases List.mem_append.mp ha with q | q
    · exact Own.dom o v S1 h1 a q
    · exact Owns.dom os r S2 h2 a q
end
/-- the plain part, grown by some of one's own -/
def fz (F H : Hp) (S : List Addr) : Hp := fun a => if a ∈ S then H a else F a
theorem fz_in {F H : Hp} {S : List Addr} {a : Addr} (h : a ∈ S) : fz F H S a = H a := if_pos h
theorem fz_out {F H : Hp} {S : List Addr} {a : Addr} (h : a ∉ S) : fz F H S a = F a := if_neg h
theorem fz_nil {F H : Hp} : fz F H [] = F := by funext a; exact fz_out (by simp)
theorem fz_sub {F H : Hp} {S : List Addr} (s : Sub F H) : Sub F (fz F H S) := fun a o e => by
  by_cases q : a ∈ S
  · rw [fz_in q]; exact s _ _ e
  · rw [fz_out q]; exact e
theorem fz_sub2 {F H : Hp} {S : List Addr} (s : Sub F H) : Sub (fz F H S) H := fun a o e => by
  by_cases q : a ∈ S
  · rw [fz_in q] at e; exact e
  · rw [fz_out q] at e; exact s _ _ e
mutual
theorem Own.rep {F G H : Hp} : ∀ (o : O) (v : V) (S : List Addr), Own mg nm F H o v S → Sub F G → (∀ a ∈ S, G a = H a) → Rep mg nm G o.er v
  | .im d, v, S, h, s, _ => Rep.mono s d v h.1
  | .ls ds, v, S, h, s, k => by
    obtain ⟨a, vs, e, q, r, rfl⟩ := h
    exact ⟨a, vs, e, by rw [k a (by simp)]; exact q, Reps.mono s ds vs r⟩
  | .dc _, _, _, h, _, _ => h.elim
  | .lst os, v, S, h, s, k => by
    obtain ⟨a, vs, R, e, q, r, rfl⟩ := h
    exact ⟨a, vs, e, by rw [k a (by simp)]; exact q, Owns.reps os vs R r s fun b hb => k b (List.mem_cons_of_mem _ hb)⟩
  | .tup os, v, S, h, s, k => by
    obtain ⟨a, vs, R, e, q, r, rfl⟩ := h
    exact ⟨a, vs, e, by rw [k a (by simp)]; exact q, Owns.reps os vs R r s fun b hb => k b (List.mem_cons_of_mem _ hb)⟩
theorem Owns.reps {F G H : Hp} : ∀ (os : List O) (vs : List V) (S : List Addr), Owns mg nm F H os vs S → Sub F G → (∀ a ∈ S, G a = H a) → Reps mg nm G (O.ers os) vs
  | [], _, _, h, _, _ => h.1
  | o :: os, vs, S, h, s, k => by
    obtain ⟨v, r, S1, S2, e, h1, h2, rfl⟩ := h
    exact ⟨v, r, e, Own.rep o v S1 h1 s fun a ha => k a (List.mem_append_left _ ha), Owns.reps os r S2 h2 s fun a ha => k a (List.mem_append_right _ ha)⟩
end
theorem Owns.length {F H : Hp} : ∀ {os : List O} {vs : List V} {S : List Addr}, Owns mg nm F H os vs S → vs.length = os.length
  | [], _, _, h => by rw [h.1]; rfl
  | o :: os, vs, S, h => by
    obtain ⟨v, r, S1, S2, rfl, h1, h2, rfl⟩ := h
    simp [Owns.length h2]
theorem Owns.ims {F H : Hp} : ∀ {os : List O} {vs : List V} {S : List Addr} {ds : List D}, Owns mg nm F H os vs S → O.ims os = some ds → Reps mg nm F ds vs ∧ S = []
  | [], _, _, ds, h, e => by cases e; exact ⟨h.1, h.2⟩
  | o :: os, vs, S, ds, h, e => by
    obtain ⟨v, r, S1, S2, rfl, h1, h2, rfl⟩ := h
    cases o with
    | im d =>
      unfold O.ims at e
      cases q : O.ims os with
      | none => rw [q] at e; cases e
      | some ds' =>
        rw [q] at e; cases e
        obtain ⟨r1, r2⟩ := Owns.ims h2 q
        exact ⟨⟨v, r, rfl, h1.1, r1⟩, by rw [h1.2, r2]; rfl⟩
    | _ => cases e

/-! ### states and steps -/
structure RelS (mg : Str → Option Value) (nm : Nm) (F H : Hp) (σ : L2.St) (ε : Env) (Z : Nat → List Addr) : Prop where
  sub : Sub F H
  slot : ∀ i o, ε i = some o → ∃ v, σ[i]? = some (some v) ∧ Own mg nm F H o v (Z i)
  emp : ∀ i, ε i = none → Z i = []
  nd : ∀ i, (Z i).Nodup
  dj : ∀ i j, i ≠ j → ∀ a ∈ Z i, a ∉ Z j
  fr : ∀ i, ∀ a ∈ Z i, F a = none
structure Stp (F H : Hp) (Z : Nat → List Addr) (F' H' : Hp) (Z' : Nat → List Addr) : Prop where
  sub : Sub F F'
  keep : ∀ a o, H a = some o → (∀ i, a ∉ Z i) → H' a = some o
  dom : ∀ a, H' a = none → H a = none
  newF : ∀ a, F' a ≠ none → F a ≠ none ∨ H a = none ∨ ∃ i, a ∈ Z i
  newZ : ∀ i, ∀ a ∈ Z' i, H a = none ∨ ∃ j, a ∈ Z j
theorem RelS.dom {F H : Hp} {σ : L2.St} {ε : Env} {Z : Nat → List Addr} (R : RelS mg nm F H σ ε Z) {i : Nat} {a : Addr} (h : a ∈ Z i) : ∃ u, H a = some u := by
  cases e : ε i with
  | none => rw [R.emp i e] at h; cases h
  | some o =>
    obtain ⟨v, _, w⟩ := R.slot i o e
    exact Own.dom o v _ w a h
theorem Stp.refl {F H : Hp} {Z : Nat → List Addr} : Stp F H Z F H Z := ⟨Sub.refl, fun _ _ h _ => h, fun _ h => h, fun _ h => .inl h, fun i a h => .inr ⟨i, h⟩⟩
theorem Stp.trans {F H F1 H1 F2 H2 : Hp} {Z Z1 Z2 : Nat → List Addr} (a : Stp F H Z F1 H1 Z1) (b : Stp F1 H1 Z1 F2 H2 Z2) : Stp F H Z F2 H2 Z2 where
  sub := a.sub.trans b.sub
  keep := fun x o h hz => b.keep x o (a.keep x o h hz) fun i hi => by
    rcases a.newZ i x hi with q | ⟨j, q⟩
    · rw [h] at q; cases q
    · exact hz j q
  dom := fun x h => a.dom x (b.dom x h)
  newF := fun x h => by
    rcases b.newF x h with q | q | ⟨i, q⟩
    · exact a.newF x q
    · exact .inr (.inl (a.dom x q))
    · rcases a.newZ i x q with z | z
      · exact .inr (.inl z)
      · exact .inr (.inr z)
  newZ := fun i x h => by
    rcases b.newZ i x h with q | ⟨j, q⟩
    · exact .inl (a.dom x q)
    · exact a.newZ j x q
/-- addresses of a value at hand: no one else's -/
structure Tmp (H : Hp) (Z : Nat → List Addr) (F' : Hp) (Z' : Nat → List Addr) (S : List Addr) : Prop where
  nd : S.Nodup
  fr : ∀ a ∈ S, F' a = none
  dj : ∀ a ∈ S, ∀ i, a ∉ Z' i
  new : ∀ a ∈ S, H a = none ∨ ∃ i, a ∈ Z i
theorem Tmp.nil {H F' : Hp} {Z Z' : Nat → List Addr} : Tmp H Z F' Z' [] := ⟨List.nodup_nil, fun _ h => (by cases h), fun _ h => (by cases h), fun _ h => (by cases h)⟩
/-- a value at hand stays through a step -/
theorem Tmp.step {H F1 H1 F2 H2 : Hp} {Z Z1 Z2 : Nat → List Addr} {S : List Addr} (t : Tmp H Z F1 Z1 S) (b : Stp F1 H1 Z1 F2 H2 Z2) (hd : ∀ a ∈ S, ∃ u, H1 a = some u) : Tmp H Z F2 Z2 S ∧ ∀ a ∈ S, ∀ u, H1 a = some u → H2 a = some u := by
  have nn : ∀ a ∈ S, H1 a ≠ none := fun a ha e => by
    obtain ⟨u, q⟩ := hd a ha
    rw [e] at q; cases q
  refine ⟨⟨t.nd, fun a ha => ?_, fun a ha i hi => ?_, t.new⟩, fun a ha u e => b.keep a u e (t.dj a ha)⟩
  · cases e : F2 a with
    | none => rfl
    | some o =>
      rcases b.newF a (by rw [e]; exact fun z => by cases z) with q | q | ⟨i, q⟩
      · exact absurd (t.fr a ha) q
      · exact absurd q (nn a ha)
      · exact absurd q (t.dj a ha i)
  · rcases b.newZ i a hi with q | ⟨j, q⟩
    · exact nn a ha q
    · exact t.dj a ha j q
/-- the second value's addresses beside the first one's -/
theorem Tmp.append {F H F1 H1 F2 H2 : Hp} {Z Z1 Z2 : Nat → List Addr} {S1 S2 : List Addr} (s : Stp F H Z F1 H1 Z1) (t1 : Tmp H Z F1 Z1 S1) (b : Stp F1 H1 Z1 F2 H2 Z2) (hd : ∀ a ∈ S1, ∃ u, H1 a = some u) (t2 : Tmp H1 Z1 F2 Z2 S2) : Tmp H Z F2 Z2 (S1 ++ S2) := by
  have k := (t1.step b hd).1
  refine ⟨List.nodup_append.mpr ⟨k.nd, t2.nd, fun a ha c hc e => ?_⟩, fun a ha => ?_, fun a ha => ?_, fun a ha => ?_⟩
  · subst e
    rcases t2.new a hc with q | ⟨i, q⟩
    · obtain ⟨u, z⟩ := hd a ha
      rw [q] at z; cases z
    · exact t1.dj a ha i q
  · exact (List.mem_append.mp ha).elim (k.fr a) (t2.fr a)
  · exact (List.mem_append.mp ha).elim (k.dj a) (t2.dj a)
  · rcases List.mem_append.mp ha with q | q
    · exact k.new a q
    · rcases t2.new a q with z | ⟨j, z⟩
      · exact .inl (s.dom a z)
      · exact s.newZ j a z
theorem Tmp.pre {F H F1 H1 F2 : Hp} {Z Z1 Z2 : Nat → List Addr} {S : List Addr} (s : Stp F H Z F1 H1 Z1) (t : Tmp H1 Z1 F2 Z2 S) : Tmp H Z F2 Z2 S :=
  ⟨t.nd, t.fr, t.dj, fun a ha => by
    rcases t.new a ha with z | ⟨j, z⟩
    · exact .inl (s.dom a z)
    · exact s.newZ j a z⟩
end
end Ev
end
section
set_option linter.all false
set_option maxRecDepth 100000
set_option maxHeartbeats 4000000
/-! Readings by the evaluator. -/
namespace Ev
open PySem L2

def After {α : Type} (r : Res α) (k : α → Env → Prop) (x : Nat → D → Env → Prop) : Prop := match r with
  | .ok a ε => k a ε
  | .exc c v ε => x c v ε
  | .bad => False
theorem After.bind {α β : Type} {r : Res α} {f : α → Env → Res β} {k : β → Env → Prop} {x : Nat → D → Env → Prop} (h : After (r.bind f) k x) : After r (fun a ε => After (f a ε) k x) x := by
  cases r <;> exact h
theorem After.imp {α : Type} {r : Res α} {k k' : α → Env → Prop} {x x' : Nat → D → Env → Prop} (h : After r k x) (hk : ∀ a ε, k a ε → k' a ε) (hx : ∀ c v ε, x c v ε → x' c v ε) : After r k' x' := by
  cases r with
  | ok a ε => exact hk a ε h
  | exc c v ε => exact hx c v ε h
  | bad => exact h

/-- what all readings lean on: names, calls, places that are changed, the wish for an exception -/
structure Pm where
  nm : Nm
  cl : Nat → List O → COut
  sg : Nat → List Nat
  mp : List Nat
  W : WX

section
variable (mg : Str → Option Value) (P : Pm)
def xW (σ : L2.St) (F H : Hp) (Z : Nat → List Addr) : Nat → D → Env → Prop := fun c d ε' => ∀ F' H' Z' C dx v, Stp F H Z F' H' Z' → RelS mg P.nm F' H' σ ε' Z' → mg (P.nm.cls c) = some (.ref C) → H dx = none → H' dx = some (.xd [(("value" : Str), v)]) → Rep mg P.nm F' d v → P.W (.ref C) (some dx) σ H'
def kO (σ : L2.St) (F H : Hp) (Z : Nat → List Addr) (Q : VK) : O → Env → Prop := fun o ε' => ∀ F' H' Z' v S, Stp F H Z F' H' Z' → RelS mg P.nm F' H' σ ε' Z' → Own mg P.nm F' H' o v S → Tmp H Z F' Z' S → Q v H'
def tR (r : Env → Res O) : TE := fun σ H Q => ∃ F Z ε, RelS mg P.nm F H σ ε Z ∧ After (r ε) (kO mg P σ F H Z Q) (xW mg P σ F H Z)
def tE (e : Ex) : TE := tR mg P (evE P.cl P.sg e)
def HnR (F H : Hp) (σ : L2.St) : Hn → V → List Addr → Prop
  | .slot i, v, S => σ[i]? = some (some v) ∧ S = []
  | .val o, v, S => Own mg P.nm F H o v S
def kH (σ : L2.St) (F H : Hp) (Z : Nat → List Addr) (Q : VK) : Hn → Env → Prop := fun h ε' => ∀ F' H' Z' v S, Stp F H Z F' H' Z' → RelS mg P.nm F' H' σ ε' Z' → HnR mg P F' H' σ h v S → Tmp H Z F' Z' S → Q v H'
def tH (e : Ex) : TE := fun σ H Q => ∃ F Z ε, RelS mg P.nm F H σ ε Z ∧ After (evH P.cl P.sg e ε) (kH mg P σ F H Z Q) (xW mg P σ F H Z)
def HnRs (F H : Hp) (σ : L2.St) : List Hn → List V → List Addr → Prop
  | [], vs, S => vs = [] ∧ S = []
  | h :: hs, vs, S => ∃ v r S1 S2, vs = v :: r ∧ HnR mg P F H σ h v S1 ∧ HnRs F H σ hs r S2 ∧ S = S1 ++ S2
def kHs (σ : L2.St) (F H : Hp) (Z : Nat → List Addr) (Q : List Hn → Env → Hp → Hp → (Nat → List Addr) → List V → List Addr → Prop) : List Hn → Env → Prop := fun hs ε' => ∀ F' H' Z' vs S, Stp F H Z F' H' Z' → RelS mg P.nm F' H' σ ε' Z' → HnRs mg P F' H' σ hs vs S → Tmp H Z F' Z' S → Q hs ε' F' H' Z' vs S
def kT (σ : L2.St) (F H : Hp) (Z : Nat → List Addr) (Q : Bool → Hp → Prop) : Bool → Env → Prop := fun b ε' => ∀ F' H' Z', Stp F H Z F' H' Z' → RelS mg P.nm F' H' σ ε' Z' → Q b H'
def tT (e : Ex) : TT := fun σ H Q => ∃ F Z ε, RelS mg P.nm F H σ ε Z ∧ After (evT P.cl P.sg e ε) (kT mg P σ F H Z Q) (xW mg P σ F H Z)
end

section
variable {X : Cx} {P : Pm} {mg : Str → Option Value}
theorem PE.imp {e : Expr} {t t' : TE} (h : PE X e t) (i : ∀ σ H Q, t' σ H Q → t σ H Q) : PE X e t' := ⟨fun pins s σ H Q I q => h.run pins s σ H Q I (i σ H Q q)⟩
theorem PE.or {e : Expr} {t t' : TE} (h : PE X e t) (h' : PE X e t') : PE X e (fun σ H Q => t σ H Q ∨ t' σ H Q) := ⟨fun pins s σ H Q I q => q.elim (h.run pins s σ H Q I) (h'.run pins s σ H Q I)⟩
theorem PT.imp {e : Expr} {t t' : TT} (h : PT X e t) (i : ∀ σ H Q, t' σ H Q → t σ H Q) : PT X e t' := ⟨fun pins s σ H Q I q => h.run pins s σ H Q I (i σ H Q q)⟩
theorem PA.imp {e : List Expr} {t t' : TA} (h : PA X e t) (i : ∀ σ H Q, t' σ H Q → t σ H Q) : PA X e t' := ⟨fun pos pins s σ H Q I q => h.run pos pins s σ H Q I (i σ H Q q)⟩

theorem xW.step {σ : L2.St} {F H F1 H1 : Hp} {Z Z1 : Nat → List Addr} {c : Nat} {d : D} {ε : Env} (s : Stp F H Z F1 H1 Z1) (h : xW mg P σ F H Z c d ε) : xW mg P σ F1 H1 Z1 c d ε :=
  fun F' H' Z' C dx v s' r hC h0 => h F' H' Z' C dx v (s.trans s') r hC (s.dom dx h0)

theorem HnR.mono {F F' H H' : Hp} {σ : L2.St} (s : Sub F F') {h : Hn} {v : V} {S : List Addr} (r : HnR mg P F H σ h v S) (k : ∀ a ∈ S, ∀ u, H a = some u → H' a = some u) : HnR mg P F' H' σ h v S := by
  cases h with
  | slot i => exact r
  | val o => exact Own.mono s o v S r k
theorem HnRs.mono {F F' H H' : Hp} {σ : L2.St} (s : Sub F F') : ∀ {hs : List Hn} {vs : List V} {S : List Addr}, HnRs mg P F H σ hs vs S → (∀ a ∈ S, ∀ u, H a = some u → H' a = some u) → HnRs mg P F' H' σ hs vs S
  | [], _, _, r, _ => r
  | h :: hs, vs, S, r, k => by
    obtain ⟨v, w, S1, S2, e, h1, h2, rfl⟩ := r
    exact ⟨v, w, S1, S2, e, h1.mono s fun a ha => k a (List.mem_append_left _ ha), HnRs.mono s h2 fun a ha => k a (List.mem_append_right _ ha), rfl⟩
theorem HnR.dom {F H : Hp} {σ : L2.St} {h : Hn} {v : V} {S : List Addr} (r : HnR mg P F H σ h v S) : ∀ a ∈ S, ∃ u, H a = some u := by
  cases h with
  | slot i => intro a ha; rw [r.2] at ha; cases ha
  | val o => exact Own.dom o v S r
theorem HnRs.dom {F H : Hp} {σ : L2.St} : ∀ {hs : List Hn} {vs : List V} {S : List Addr}, HnRs mg P F H σ hs vs S → ∀ a ∈ S, ∃ u, H a = some u
  | [], _, _, r, a, ha => by rw [r.2] at ha; cases ha
  | h :: hs, vs, S, r, a, ha => by
    obtain ⟨v, w, S1, S2, e, h1, h2, rfl⟩ := r
    exact (List.mem_append.mp ha).elim (h1.dom a) (HnRs.dom h2 a)

/-- one more operand: from the whole's reading to the first one's, then the rest's -/
theorem after_cons {σ : L2.St} {F H : Hp} {Z : Nat → List Addr} {ε : Env} {e : Ex} {es : List Ex} {Q : List Hn → Env → Hp → Hp → (Nat → List Addr) → List V → List Addr → Prop}
    (h : After (evHs P.cl P.sg (e :: es) ε) (kHs mg P σ F H Z Q) (xW mg P σ F H Z)) :
    After (evH P.cl P.sg e ε) (fun hh ε1 => ∀ F1 H1 Z1 v S1, Stp F H Z F1 H1 Z1 → RelS mg P.nm F1 H1 σ ε1 Z1 → HnR mg P F1 H1 σ hh v S1 → Tmp H Z F1 Z1 S1 →
      After (evHs P.cl P.sg es ε1) (kHs mg P σ F1 H1 Z1 (fun hs ε' F' H' Z' vs S => Q (hh :: hs) ε' F' H' Z' (v :: vs) (S1 ++ S))) (xW mg P σ F1 H1 Z1)) (xW mg P σ F H Z) := by
  unfold evHs at h
  refine (After.bind h).imp (fun hh ε1 k F1 H1 Z1 v S1 s1 r1 o1 t1 => ?_) fun _ _ _ z => z
  refine (After.bind k).imp (fun hs ε2 k2 F' H' Z' vs S s2 r2 o2 t2 => ?_) fun _ _ _ z => xW.step s1 z
  have k2' : kHs mg P σ F H Z Q (hh :: hs) ε2 := k2
  have ts := t1.step s2 o1.dom
  exact k2' F' H' Z' (v :: vs) (S1 ++ S) (s1.trans s2) r2 ⟨v, vs, S1, S, rfl, o1.mono s2.sub ts.2, o2, rfl⟩ (Tmp.append s1 t1 s2 o1.dom t2)
theorem after_nil {σ : L2.St} {F H : Hp} {Z : Nat → List Addr} {ε : Env} {Q : List Hn → Env → Hp → Hp → (Nat → List Addr) → List V → List Addr → Prop} (R : RelS mg P.nm F H σ ε Z)
    (h : After (evHs P.cl P.sg [] ε) (kHs mg P σ F H Z Q) (xW mg P σ F H Z)) : Q [] ε F H Z [] [] := by
  unfold evHs at h
  exact h F H Z [] [] Stp.refl R ⟨rfl, rfl⟩ Tmp.nil

/-- an operand's reading from its evaluation's -/
theorem tH_of {σ : L2.St} {F H : Hp} {Z : Nat → List Addr} {ε : Env} {e : Ex} {Q : VK} (R : RelS mg P.nm F H σ ε Z) (h : After (evH P.cl P.sg e ε) (kH mg P σ F H Z Q) (xW mg P σ F H Z)) : tH mg P e σ H Q := ⟨F, Z, ε, R, h⟩

theorem read1 {σ : L2.St} {F H : Hp} {Z : Nat → List Addr} {ε : Env} {a : Ex} {G : V → Hp → Prop} {Q : List Hn → Env → Hp → Hp → (Nat → List Addr) → List V → List Addr → Prop} (R : RelS mg P.nm F H σ ε Z)
    (h : After (evHs P.cl P.sg [a] ε) (kHs mg P σ F H Z Q) (xW mg P σ F H Z)) (q : ∀ hs ε' F' H' Z' x S, RelS mg P.nm F' H' σ ε' Z' → Q hs ε' F' H' Z' [x] S → G x H') :
    tH mg P a σ H (fun x H1 => G x H1) := by
  refine tH_of R ((after_cons h).imp (fun hh ε1 k F1 H1 Z1 v S1 s1 r1 o1 t1 => ?_) fun _ _ _ z => z)
  exact q _ _ _ _ _ _ _ r1 (after_nil r1 (k F1 H1 Z1 v S1 s1 r1 o1 t1))
theorem read2 {σ : L2.St} {F H : Hp} {Z : Nat → List Addr} {ε : Env} {a b : Ex} {G : V → V → Hp → Prop} {Q : List Hn → Env → Hp → Hp → (Nat → List Addr) → List V → List Addr → Prop} (R : RelS mg P.nm F H σ ε Z)
    (h : After (evHs P.cl P.sg [a, b] ε) (kHs mg P σ F H Z Q) (xW mg P σ F H Z)) (q : ∀ hs ε' F' H' Z' x y S, RelS mg P.nm F' H' σ ε' Z' → Q hs ε' F' H' Z' [x, y] S → G x y H') :
    tH mg P a σ H (fun x H1 => tH mg P b σ H1 (fun y H2 => G x y H2)) := by
  refine tH_of R ((after_cons h).imp (fun hh ε1 k F1 H1 Z1 v S1 s1 r1 o1 t1 => ?_) fun _ _ _ z => z)
  exact read1 r1 (k F1 H1 Z1 v S1 s1 r1 o1 t1) fun hs ε' F' H' Z' x S r' q' => q _ _ _ _ _ _ _ _ r' q'
theorem read3 {σ : L2.St} {F H : Hp} {Z : Nat → List Addr} {ε : Env} {a b c : Ex} {G : V → V → V → Hp → Prop} {Q : List Hn → Env → Hp → Hp → (Nat → List Addr) → List V → List Addr → Prop} (R : RelS mg P.nm F H σ ε Z)
    (h : After (evHs P.cl P.sg [a, b, c] ε) (kHs mg P σ F H Z Q) (xW mg P σ F H Z)) (q : ∀ hs ε' F' H' Z' x y z S, RelS mg P.nm F' H' σ ε' Z' → Q hs ε' F' H' Z' [x, y, z] S → G x y z H') :
    tH mg P a σ H (fun x H1 => tH mg P b σ H1 (fun y H2 => tH mg P c σ H2 (fun z H3 => G x y z H3))) := by
  refine tH_of R ((after_cons h).imp (fun hh ε1 k F1 H1 Z1 v S1 s1 r1 o1 t1 => ?_) fun _ _ _ z => z)
  exact read2 r1 (k F1 H1 Z1 v S1 s1 r1 o1 t1) fun hs ε' F' H' Z' x y S r' q' => q _ _ _ _ _ _ _ _ _ r' q'

/-! ### what is shown -/
/-- v shows d: it stands for d, or is a list of one's own -/
def View (mg : Str → Option Value) (nm : Nm) (F H : Hp) (d : D) (v : V) : Prop := Rep mg nm F d v ∨ ∃ a vs ds, d = .lst ds ∧ v = .ref a ∧ H a = some (.lst vs) ∧ Reps mg nm F ds vs
def Views (mg : Str → Option Value) (nm : Nm) (F H : Hp) : List D → List V → Prop
  | [], vs => vs = []
  | d :: ds, vs => ∃ v r, vs = v :: r ∧ View mg nm F H d v ∧ Views mg nm F H ds r
theorem View.mono {nm : Nm} {F F' H : Hp} (s : Sub F F') {d : D} {v : V} (h : View mg nm F H d v) : View mg nm F' H d v := by
  rcases h with h | ⟨a, vs, ds, e1, e2, e3, r⟩
  · exact .inl (Rep.mono s d v h)
  · exact .inr ⟨a, vs, ds, e1, e2, e3, Reps.mono s ds vs r⟩
theorem View.list {nm : Nm} {F H : Hp} (s : Sub F H) {ds : List D} {v : V} (h : View mg nm F H (.lst ds) v) : ∃ a vs, v = .ref a ∧ H a = some (.lst vs) ∧ Reps mg nm F ds vs := by
  rcases h with ⟨a, vs, e1, e2, r⟩ | ⟨a, vs, ds', e1, e2, e3, r⟩
  · exact ⟨a, vs, e1, s _ _ e2, r⟩
  · cases e1; exact ⟨a, vs, e2, e3, r⟩
/-- some of one's own become plain -/
theorem RelS.freeze {nm : Nm} {F H : Hp} {σ : L2.St} {ε : Env} {Z : Nat → List Addr} (R : RelS mg nm F H σ ε Z) {S : List Addr} (hn : ∀ a ∈ S, ∀ i, a ∉ Z i) : RelS mg nm (fz F H S) H σ ε Z where
  sub := fz_sub2 R.sub
  slot := fun i o e => by
    obtain ⟨v, h1, h2⟩ := R.slot i o e
    exact ⟨v, h1, Own.mono (fz_sub R.sub) o v _ h2 fun _ _ _ z => z⟩
  emp := R.emp
  nd := R.nd
  dj := R.dj
  fr := fun i a ha => by
    rw [fz_out fun z => hn a z i ha]
    exact R.fr i a ha
/-- a name's own become plain (in part) -/
theorem RelS.slotTo {nm : Nm} {F F' H : Hp} {σ : L2.St} {ε : Env} {Z : Nat → List Addr} (R : RelS mg nm F H σ ε Z) {i : Nat} {v : V} {o' : O} {S : List Addr} (hv : σ[i]? = some (some v)) (sF : Sub F F') (sH : Sub F' H)
    (hF : ∀ a, F' a ≠ none → F a ≠ none ∨ (a ∈ Z i ∧ a ∉ S)) (ow : Own mg nm F' H o' v S) (nd : S.Nodup) (sS : ∀ a ∈ S, a ∈ Z i) : RelS mg nm F' H σ (up ε i o') (fun j => if j = i then S else Z j) where
  sub := sH
  slot := fun j o e => by
    by_cases q : j = i
    · subst q
      unfold up at e
      rw [if_pos rfl] at e; cases e
      exact ⟨v, hv, by rw [if_pos rfl]; exact ow⟩
    · unfold up at e
      rw [if_neg q] at e
      obtain ⟨w, h1, h2⟩ := R.slot j o e
      exact ⟨w, h1, by rw [if_neg q]; exact Own.mono sF o w _ h2 fun _ _ _ z => z⟩
  emp := fun j e => by
    unfold up at e
    by_cases q : j = i
    · rw [if_pos q] at e; cases e
    · rw [if_neg q] at e ⊢; exact R.emp j e
  nd := fun j => by
    by_cases q : j = i
    · rw [if_pos q]; exact nd
    · rw [if_neg q]; exact R.nd j
  dj := fun j k hjk a ha => by
    by_cases q : j = i
    · subst q
      rw [if_pos rfl] at ha
      rw [if_neg (Ne.symm hjk)]
      exact R.dj _ k hjk a (sS a ha)
    · rw [if_neg q] at ha
      by_cases q2 : k = i
      · subst q2
        rw [if_pos rfl]
        exact fun z => R.dj j _ hjk a ha (sS a z)
      · rw [if_neg q2]; exact R.dj j k hjk a ha
  fr := fun j a ha => by
    cases e : F' a with
    | none => rfl
    | some u =>
      rcases hF a (by rw [e]; exact fun z => by cases z) with z | ⟨z1, z2⟩
      · by_cases q : j = i
        · subst q
          rw [if_pos rfl] at ha
          exact absurd (R.fr _ a (sS a ha)) z
        · rw [if_neg q] at ha
          exact absurd (R.fr j a ha) z
      · by_cases q : j = i
        · rw [if_pos q] at ha; exact absurd ha z2
        · rw [if_neg q] at ha
          exact absurd z1 (R.dj j i q a ha)
theorem Stp.slotTo {F F' H : Hp} {Z : Nat → List Addr} {i : Nat} {S : List Addr} (sF : Sub F F') (hF : ∀ a, F' a ≠ none → F a ≠ none ∨ (a ∈ Z i ∧ a ∉ S)) (sS : ∀ a ∈ S, a ∈ Z i) : Stp F H Z F' H (fun j => if j = i then S else Z j) where
  sub := sF
  keep := fun _ _ h _ => h
  dom := fun _ h => h
  newF := fun a h => (hF a h).elim .inl fun z => .inr (.inr ⟨i, z.1⟩)
  newZ := fun j a ha => by
    by_cases q : j = i
    · rw [if_pos q] at ha; exact .inr ⟨i, sS a ha⟩
    · rw [if_neg q] at ha; exact .inr ⟨j, ha⟩
theorem Stp.freeze {F H : Hp} {Z : Nat → List Addr} {H0 : Hp} {Z0 : Nat → List Addr} {S : List Addr} (R : Sub F H) (t : ∀ a ∈ S, H0 a = none ∨ ∃ i, a ∈ Z0 i) (F0 : Hp) (s : Stp F0 H0 Z0 F H Z) : Stp F0 H0 Z0 (fz F H S) H Z where
  sub := s.sub.trans (fz_sub R)
  keep := s.keep
  dom := s.dom
  newF := fun a h => by
    by_cases q : a ∈ S
    · exact .inr (t a q)
    · rw [fz_out q] at h; exact s.newF a h
  newZ := s.newZ
end
end Ev
end
section
set_option linter.all false
set_option maxRecDepth 100000
set_option maxHeartbeats 4000000
/-! Operands shown; built-in operations' ends. -/
namespace Ev
open PySem L2
section
variable {X : Cx} {P : Pm} {mg : Str → Option Value} {nm : Nm}

theorem Tmp.sub {H F' : Hp} {Z Z' : Nat → List Addr} {S S1 : List Addr} (t : Tmp H Z F' Z' S) (s : S1.Sublist S) : Tmp H Z F' Z' S1 :=
  ⟨t.nd.sublist s, fun a h => t.fr a (s.subset h), fun a h => t.dj a (s.subset h), fun a h => t.new a (s.subset h)⟩

theorem rd_ok {σ : L2.St} {F0 H0 F H : Hp} {Z0 Z : Nat → List Addr} {ε ε' : Env} {h : Hn} {v : V} {S1 S2 : List Addr} {d : D}
    (s : Stp F0 H0 Z0 F H Z) (R : RelS mg P.nm F H σ ε Z) (o : HnR mg P F H σ h v S1) (t : Tmp H0 Z0 F Z (S1 ++ S2)) (e : rd ε h = some (d, ε')) :
    ∃ F' Z', Stp F0 H0 Z0 F' H Z' ∧ Sub F F' ∧ RelS mg P.nm F' H σ ε' Z' ∧ View mg P.nm F' H d v ∧ Tmp H0 Z0 F' Z' S2 ∧ ∀ o', h = .val o' → Rep mg P.nm F' d v := by
  have t1 := t.sub (List.sublist_append_left S1 S2)
  have t2 := t.sub (List.sublist_append_right S1 S2)
  have dis : ∀ a ∈ S2, a ∉ S1 := fun a h2 h1 => (List.nodup_append.mp t.nd).2.2 a h1 a h2 rfl
  cases h with
  | val o' =>
    unfold rd at e
    cases e
    refine ⟨fz F H S1, Z, Stp.freeze R.sub t1.new F0 s, fz_sub R.sub, R.freeze t1.dj, .inl (Own.rep _ v S1 o (fz_sub R.sub) fun a ha => fz_in ha), ⟨t2.nd, fun a ha => ?_, t2.dj, t2.new⟩, fun _ _ => Own.rep _ v S1 o (fz_sub R.sub) fun a ha => fz_in ha⟩
    rw [fz_out (dis a ha)]
    exact t2.fr a ha
  | slot i =>
    unfold rd at e
    dsimp only at e
    obtain ⟨hv, rfl⟩ := o
    have dZ : ∀ R' : List Addr, (∀ a ∈ R', a ∈ Z i) → ∀ a ∈ S2, a ∉ R' := fun R' hR a ha z => t2.dj a ha i (hR a z)
    have tm : ∀ R' S : List Addr, (∀ a ∈ R', a ∈ Z i) → (∀ a ∈ S, a ∈ Z i) → Tmp H0 Z0 (fz F H R') (fun j => if j = i then S else Z j) S2 := fun R' S hR hS => ⟨t2.nd, fun a ha => by
      rw [fz_out (dZ R' hR a ha)]; exact t2.fr a ha, fun a ha j hj => by
      by_cases q : j = i
      · rw [if_pos q] at hj; exact t2.dj a ha i (hS a hj)
      · rw [if_neg q] at hj; exact t2.dj a ha j hj, t2.new⟩
    cases ei : ε i with
    | none => rw [ei] at e; cases e
    | some o1 =>
      rw [ei] at e
      obtain ⟨w, hw, ow⟩ := R.slot i o1 ei
      rw [hv] at hw; cases hw
      have ndZ := R.nd i
      have frZ := R.fr i
      cases o1 with
      | im d' => cases e; exact ⟨F, Z, s, Sub.refl, R, .inl ow.1, t2, fun _ z => by cases z⟩
      | ls ds =>
        cases e
        obtain ⟨a, vs, e1, e2, r, _⟩ := ow
        exact ⟨F, Z, s, Sub.refl, R, .inr ⟨a, vs, ds, rfl, e1, e2, r⟩, t2, fun _ z => by cases z⟩
      | dc kvs => exact ow.elim
      | lst os =>
        cases e
        obtain ⟨a, vs, R', e1, e2, r, eZ⟩ := ow
        rw [eZ] at ndZ
        have hR : ∀ b ∈ R', b ∈ Z i := fun b hb => by rw [eZ]; exact List.mem_cons_of_mem _ hb
        have ha : ∀ b ∈ [a], b ∈ Z i := fun b hb => by rw [eZ]; simp at hb; rw [hb]; exact List.mem_cons_self
        have hF : ∀ b, fz F H R' b ≠ none → F b ≠ none ∨ (b ∈ Z i ∧ b ∉ [a]) := fun b hb => by
          by_cases q : b ∈ R'
          · refine .inr ⟨hR b q, fun z => ?_⟩
            simp at z; subst z
            exact (List.nodup_cons.mp ndZ).1 q
          · rw [fz_out q] at hb; exact .inl hb
        have rp : Reps mg P.nm (fz F H R') (O.ers os) vs := Owns.reps os vs R' r (fz_sub R.sub) fun b hb => fz_in hb
        exact ⟨fz F H R', _, s.trans (Stp.slotTo (fz_sub R.sub) hF ha), fz_sub R.sub, R.slotTo hv (fz_sub R.sub) (fz_sub2 R.sub) hF ⟨a, vs, e1, e2, rp, rfl⟩ (by simp) ha, .inr ⟨a, vs, _, rfl, e1, e2, rp⟩, tm R' [a] hR ha, fun _ z => by cases z⟩
      | tup os =>
        cases e
        have hR : ∀ b ∈ Z i, b ∈ Z i := fun _ z => z
        have hF : ∀ b, fz F H (Z i) b ≠ none → F b ≠ none ∨ (b ∈ Z i ∧ b ∉ ([] : List Addr)) := fun b hb => by
          by_cases q : b ∈ Z i
          · exact .inr ⟨q, by simp⟩
          · rw [fz_out q] at hb; exact .inl hb
        have rp : Rep mg P.nm (fz F H (Z i)) (.tup (O.ers os)) v := Own.rep (.tup os) v (Z i) ow (fz_sub R.sub) fun b hb => fz_in hb
        exact ⟨fz F H (Z i), _, s.trans (Stp.slotTo (fz_sub R.sub) hF (by simp)), fz_sub R.sub, R.slotTo hv (fz_sub R.sub) (fz_sub2 R.sub) hF ⟨rp, rfl⟩ (by simp) (by simp), .inl rp, tm (Z i) [] hR (by simp), fun _ z => by cases z⟩

theorem rds_ok {σ : L2.St} {F0 H0 : Hp} {Z0 : Nat → List Addr} : ∀ {hs : List Hn} {F H : Hp} {Z : Nat → List Addr} {ε ε' : Env} {vs : List V} {S : List Addr} {ds : List D},
    Stp F0 H0 Z0 F H Z → RelS mg P.nm F H σ ε Z → HnRs mg P F H σ hs vs S → Tmp H0 Z0 F Z S → rds ε hs = some (ds, ε') →
    ∃ F' Z', Stp F0 H0 Z0 F' H Z' ∧ Sub F F' ∧ RelS mg P.nm F' H σ ε' Z' ∧ Views mg P.nm F' H ds vs
  | [], F, H, Z, ε, ε', vs, S, ds, s, R, o, t, e => by
    unfold rds at e; cases e
    exact ⟨F, Z, s, Sub.refl, R, o.1⟩
  | h :: hs, F, H, Z, ε, ε', vs, S, ds, s, R, o, t, e => by
    obtain ⟨v, w, S1, S2, e1, o1, o2, rfl⟩ := o
    unfold rds at e
    cases q : rd ε h with
    | none => rw [q] at e; cases e
    | some p =>
      obtain ⟨d, ε1⟩ := p
      rw [q] at e
      dsimp only at e
      cases q2 : rds ε1 hs with
      | none => rw [q2] at e; cases e
      | some p2 =>
        obtain ⟨ds', ε2⟩ := p2
        rw [q2] at e; cases e
        obtain ⟨F1, Z1, s1, u1, R1, v1, t1, _⟩ := rd_ok s R o1 t q
        obtain ⟨F2, Z2, s2, u2, R2, v2⟩ := rds_ok s1 R1 (o2.mono u1 fun _ _ _ z => z) t1 q2
        exact ⟨F2, Z2, s2, u1.trans u2, R2, v, w, e1, v1.mono u2, v2⟩

/-! ### an operation's end -/
structure Grw (F H F' H' : Hp) : Prop where
  sub : Sub F F'
  in_ : Sub F' H'
  up : Sub H H'
  new : ∀ a, F' a ≠ none → F a ≠ none ∨ H a = none
def Out (mg : Str → Option Value) (nm : Nm) (F H : Hp) (o : O) (Q : VK) : Prop := ∀ F' H' v S, Grw F H F' H' → Own mg nm F' H' o v S → S.Nodup → (∀ a ∈ S, H a = none ∧ F' a = none) → Q v H'
theorem Grw.refl {F H : Hp} (s : Sub F H) : Grw F H F H := ⟨Sub.refl, s, Sub.refl, fun _ h => .inl h⟩
theorem RelS.grow {σ : L2.St} {F H F' H' : Hp} {Z : Nat → List Addr} {ε : Env} (R : RelS mg nm F H σ ε Z) (g : Grw F H F' H') : RelS mg nm F' H' σ ε Z where
  sub := g.in_
  slot := fun i o e => by
    obtain ⟨v, h1, h2⟩ := R.slot i o e
    exact ⟨v, h1, Own.mono g.sub o v _ h2 fun _ _ _ z => g.up _ _ z⟩
  emp := R.emp
  nd := R.nd
  dj := R.dj
  fr := fun i a ha => by
    cases e : F' a with
    | none => rfl
    | some u =>
      rcases g.new a (by rw [e]; exact fun z => by cases z) with q | q
      · exact absurd (R.fr i a ha) q
      · obtain ⟨w, z⟩ := R.dom ha
        rw [q] at z; cases z
theorem Stp.grow {F0 H0 F H F' H' : Hp} {Z0 Z : Nat → List Addr} (s : Stp F0 H0 Z0 F H Z) (g : Grw F H F' H') : Stp F0 H0 Z0 F' H' Z where
  sub := s.sub.trans g.sub
  keep := fun a o e hz => g.up _ _ (s.keep a o e hz)
  dom := fun a e => s.dom a (by
    cases q : H a with
    | none => rfl
    | some u => rw [g.up _ _ q] at e; cases e)
  newF := fun a e => (g.new a e).elim (s.newF a) fun q => .inr (.inl (s.dom a q))
  newZ := s.newZ
theorem out_of {σ : L2.St} {F0 H0 F H : Hp} {Z0 Z : Nat → List Addr} {ε : Env} {o : O} {Q : VK} (s : Stp F0 H0 Z0 F H Z) (R : RelS mg P.nm F H σ ε Z) (k : kO mg P σ F0 H0 Z0 Q o ε) : Out mg P.nm F H o Q :=
  fun F' H' v S g ow nd new => k F' H' Z v S (s.grow g) (R.grow g) ow ⟨nd, fun a ha => (new a ha).2, fun a ha i hi => by
    obtain ⟨w, z⟩ := R.dom hi
    have z2 := (new a ha).1
    exact absurd (z.symm.trans z2) (by simp), fun a ha => .inl (s.dom a (new a ha).1)⟩
/-- nothing new -/
theorem Out.here {F H : Hp} {d : D} {v : V} {Q : VK} (k : Out mg nm F H (.im d) Q) (s : Sub F H) (r : Rep mg nm F d v) : Q v H := k F H v [] (Grw.refl s) ⟨r, rfl⟩ List.nodup_nil fun _ h => by cases h
/-- a new list -/
theorem Out.list {F H : Hp} {ds : List D} {vs : List V} {p : Addr} {Q : VK} (k : Out mg nm F H (.ls ds) Q) (s : Sub F H) (r : Reps mg nm F ds vs) (hp : H p = none) : Q (.ref p) (upd H p (.lst vs)) := by
  have hF : F p = none := by
    cases q : F p with
    | none => rfl
    | some u => rw [s _ _ q] at hp; cases hp
  exact k F _ (.ref p) [p] ⟨Sub.refl, s.laid2 hF, Sub.laid hp, fun _ h => .inl h⟩ ⟨p, vs, rfl, upd_same, r, rfl⟩ (by simp) fun a ha => by
    simp at ha; subst ha; exact ⟨hp, hF⟩
/-- a new tuple -/
theorem Out.tuple {F H : Hp} {ds : List D} {vs : List V} {p : Addr} {Q : VK} (k : Out mg nm F H (.im (.tup ds)) Q) (s : Sub F H) (r : Reps mg nm F ds vs) (hp : H p = none) : Q (.ref p) (upd H p (.tup vs)) := by
  have hF : F p = none := by
    cases q : F p with
    | none => rfl
    | some u => rw [s _ _ q] at hp; cases hp
  refine k (upd F p (.tup vs)) _ (.ref p) [] ⟨Sub.laid hF, Sub.both s, Sub.laid hp, fun a h => ?_⟩ ⟨⟨p, vs, rfl, upd_same, Reps.mono (Sub.laid hF) ds vs r⟩, rfl⟩ (by simp) fun a ha => by cases ha
  by_cases q : a = p
  · subst q; exact .inr hp
  · rw [upd_ne q] at h; exact .inl h

/-- an operation: its operands, then its end -/
theorem pr_setup {σ : L2.St} {F H : Hp} {Z : Nat → List Addr} {ε : Env} {p : Prim} {es : List Ex} {Q : VK} (R : RelS mg P.nm F H σ ε Z)
    (h : After (evE P.cl P.sg (.pr p es) ε) (kO mg P σ F H Z Q) (xW mg P σ F H Z)) :
    After (evHs P.cl P.sg es ε) (kHs mg P σ F H Z (fun hs ε' F' H' Z' vs S => ∃ G ds o, Sub G H' ∧ Views mg P.nm G H' ds vs ∧ prim p ds = some o ∧ Out mg P.nm G H' o Q)) (xW mg P σ F H Z) := by
  unfold evE at h
  refine (After.bind h).imp (fun hs ε1 k F1 H1 Z1 vs S s1 r1 o1 t1 => ?_) fun _ _ _ z => z
  cases q : rds ε1 hs with
  | none => rw [q] at k; exact k.elim
  | some pr =>
    obtain ⟨ds, ε2⟩ := pr
    rw [q] at k
    dsimp only at k
    cases q2 : prim p ds with
    | none => rw [q2] at k; exact k.elim
    | some o =>
      rw [q2] at k
      obtain ⟨F2, Z2, s2, u2, R2, v2⟩ := rds_ok s1 r1 o1 t1 q
      exact ⟨F2, ds, o, R2.sub, v2, q2, out_of s2 R2 k⟩
end
end Ev
end
section
set_option linter.all false
set_option maxRecDepth 100000
set_option maxHeartbeats 4000000
/-! Operators. -/
namespace Ev
open PySem L2
section
variable {X : Cx} {P : Pm} {nm : Nm}

/-! ### plain data read by the library's -/
mutual
theorem canLay_of : ∀ (d : D) (n : Nat), d.okD n = true → (d.py).canLay0 = true
  | .non, _, _ => rfl
  | .bl _, _, _ => rfl
  | .int _, _, _ => rfl
  | .str s, _, h => h
  | .lst xs, n, h => by
    unfold D.okD at h
    show PyData.canLayAll0 (D.pys xs) = true
    exact canLays_of xs n h
  | .tup xs, n, h => by
    unfold D.okD at h
    show PyData.canLayAll0 (D.pys xs) = true
    exact canLays_of xs n h
  | .dct _, _, h => by cases h
  | .scr _, _, h => by cases h
  | .fn _, _, h => by cases h
  | .ty _, _, h => by cases h
  | .cls _, _, h => by cases h
  | .exc _ _, _, h => by cases h
theorem canLays_of : ∀ (ds : List D) (n : Nat), D.okDs ds n = true → PyData.canLayAll0 (D.pys ds) = true
  | [], _, _ => rfl
  | d :: ds, n, h => by
    unfold D.okDs at h
    simp only [Bool.and_eq_true, decide_eq_true_eq] at h
    show (PyData.canLay0 d.py && PyData.canLayAll0 (D.pys ds)) = true
    rw [canLay_of d _ h.2.1, canLays_of ds n h.2.2]; rfl
end
mutual
theorem depth_of : ∀ (d : D) (n : Nat), d.okD n = true → (d.py).depth ≤ n
  | .non, _, _ => Nat.zero_le _
  | .bl _, _, _ => Nat.zero_le _
  | .int _, _, _ => Nat.zero_le _
  | .str s, _, h => Nat.zero_le _
  | .lst xs, n, h => by
    unfold D.okD at h
    have z := depths_of xs n h
    show PyData.depthAll (D.pys xs) + 1 ≤ n
    omega
  | .tup xs, n, h => by
    unfold D.okD at h
    have z := depths_of xs n h
    show PyData.depthAll (D.pys xs) + 1 ≤ n
    omega
  | .dct _, _, h => by cases h
  | .scr _, _, h => by cases h
  | .fn _, _, h => by cases h
  | .ty _, _, h => by cases h
  | .cls _, _, h => by cases h
  | .exc _ _, _, h => by cases h
theorem depths_of : ∀ (ds : List D) (n : Nat), D.okDs ds n = true → PyData.depthAll (D.pys ds) + 1 ≤ n
  | [], n, h => by
    unfold D.okDs at h
    have z := of_decide_eq_true h
    show 0 + 1 ≤ n
    omega
  | d :: ds, n, h => by
    unfold D.okDs at h
    simp only [Bool.and_eq_true, decide_eq_true_eq] at h
    have z1 := depth_of d _ h.2.1
    have z2 := depths_of ds n h.2.2
    show Nat.max (PyData.depth d.py) (PyData.depthAll (D.pys ds)) + 1 ≤ n
    have : Nat.max (PyData.depth d.py) (PyData.depthAll (D.pys ds)) ≤ n - 1 := Nat.max_le.mpr ⟨z1, by omega⟩
    omega
end
theorem shaped_of {d : D} {n : Nat} (h : d.okD n = true) (hn : n ≤ 64) : SeqAt.shaped d.py = true := by
  unfold SeqAt.shaped
  rw [canLay_of d n h]
  have := depth_of d n h
  simp; omega
theorem py_lst (xs : List D) : (D.lst xs).py = .list (D.pys xs) := rfl
mutual
theorem eqv_of : ∀ (d e : D) (n m : Nat), d.okD n = true → e.okD m = true → PyData.eqv d.py e.py = D.eqv d e
  | .lst xs, .lst ys, n, m, h, k => by
    unfold D.okD at h k
    show PyData.eqvAll (D.pys xs) (D.pys ys) = D.eqv (.lst xs) (.lst ys)
    unfold D.eqv
    exact eqvs_of xs ys n m h k
  | .tup xs, .tup ys, n, m, h, k => by
    unfold D.okD at h k
    show PyData.eqvAll (D.pys xs) (D.pys ys) = D.eqv (.tup xs) (.tup ys)
    unfold D.eqv
    exact eqvs_of xs ys n m h k
  | .dct _, _, _, _, h, _ => by cases h
  | .scr _, _, _, _, h, _ => by cases h
  | .fn _, _, _, _, h, _ => by cases h
  | .ty _, _, _, _, h, _ => by cases h
  | .cls _, _, _, _, h, _ => by cases h
  | .exc _ _, _, _, _, h, _ => by cases h
  | _, .dct _, _, _, _, h => by cases h
  | _, .scr _, _, _, _, h => by cases h
  | _, .fn _, _, _, _, h => by cases h
  | _, .ty _, _, _, _, h => by cases h
  | _, .cls _, _, _, _, h => by cases h
  | _, .exc _ _, _, _, _, h => by cases h
  | .non, .non, _, _, _, _ => rfl
  | .non, .bl _, _, _, _, _ => rfl
  | .non, .int _, _, _, _, _ => rfl
  | .non, .str _, _, _, _, _ => rfl
  | .non, .lst _, _, _, _, _ => rfl
  | .non, .tup _, _, _, _, _ => rfl
  | .bl _, .non, _, _, _, _ => rfl
  | .bl _, .bl _, _, _, _, _ => rfl
  | .bl _, .int _, _, _, _, _ => rfl
  | .bl _, .str _, _, _, _, _ => rfl
  | .bl _, .lst _, _, _, _, _ => rfl
  | .bl _, .tup _, _, _, _, _ => rfl
  | .int _, .non, _, _, _, _ => rfl
  | .int _, .bl _, _, _, _, _ => rfl
  | .int i, .int j, _, _, _, _ => by
    show (i == j) = D.eqv (.int i) (.int j)
    unfold D.eqv
    exact Bool.beq_eq_decide_eq i j
  | .int _, .str _, _, _, _, _ => rfl
  | .int _, .lst _, _, _, _, _ => rfl
  | .int _, .tup _, _, _, _, _ => rfl
  | .str _, .non, _, _, _, _ => rfl
  | .str _, .bl _, _, _, _, _ => rfl
  | .str _, .int _, _, _, _, _ => rfl
  | .str x, .str y, _, _, _, _ => by
    show (x == y) = D.eqv (.str x) (.str y)
    unfold D.eqv
    exact Bool.beq_eq_decide_eq x y
  | .str _, .lst _, _, _, _, _ => rfl
  | .str _, .tup _, _, _, _, _ => rfl
  | .lst _, .non, _, _, _, _ => rfl
  | .lst _, .bl _, _, _, _, _ => rfl
  | .lst _, .int _, _, _, _, _ => rfl
  | .lst _, .str _, _, _, _, _ => rfl
  | .lst _, .tup _, _, _, _, _ => rfl
  | .tup _, .non, _, _, _, _ => rfl
  | .tup _, .bl _, _, _, _, _ => rfl
  | .tup _, .int _, _, _, _, _ => rfl
  | .tup _, .str _, _, _, _, _ => rfl
  | .tup _, .lst _, _, _, _, _ => rfl
theorem eqvs_of : ∀ (ds es : List D) (n m : Nat), D.okDs ds n = true → D.okDs es m = true → PyData.eqvAll (D.pys ds) (D.pys es) = D.eqvs ds es
  | [], [], _, _, _, _ => rfl
  | [], _ :: _, _, _, _, _ => rfl
  | _ :: _, [], _, _, _, _ => rfl
  | d :: ds, e :: es, n, m, h, k => by
    unfold D.okDs at h k
    simp only [Bool.and_eq_true, decide_eq_true_eq] at h k
    show (PyData.eqv d.py e.py && PyData.eqvAll (D.pys ds) (D.pys es)) = D.eqvs (d :: ds) (e :: es)
    unfold D.eqvs
    rw [eqv_of d e _ _ h.2.1 k.2.1, eqvs_of ds es n m h.2.2 k.2.2]
end
variable {mg : Str → Option Value}
mutual
theorem Rep.dp {K : W.Frag} {F H : Hp} (s : Sub F H) : ∀ (d : D) (v : V) (n : Nat), Rep mg nm F d v → d.okD n = true → Dp K H v d.py
  | .non, v, _, h, _ => by rw [show v = .non from h]; exact .non
  | .bl b, v, _, h, _ => by rw [show v = .bl b from h]; exact .bl b
  | .int i, v, _, h, _ => by rw [show v = .int i from h]; exact .int i
  | .str x, v, _, h, _ => by rw [show v = .str x from h]; exact .str x
  | .lst xs, v, n, h, k => by
    obtain ⟨a, vs, rfl, e, r⟩ := h
    unfold D.okD at k
    exact .lst (SqL.of (s _ _ e)) (Reps.dp s xs vs n r k)
  | .tup xs, v, n, h, k => by
    obtain ⟨a, vs, rfl, e, r⟩ := h
    unfold D.okD at k
    exact .tup (SqT.of (s _ _ e)) (Reps.dp s xs vs n r k)
  | .dct _, _, _, _, h => by cases h
  | .scr _, _, _, _, h => by cases h
  | .fn _, _, _, _, h => by cases h
  | .ty _, _, _, _, h => by cases h
  | .cls _, _, _, _, h => by cases h
  | .exc _ _, _, _, _, h => by cases h
theorem Reps.dp {K : W.Frag} {F H : Hp} (s : Sub F H) : ∀ (ds : List D) (vs : List V) (n : Nat), Reps mg nm F ds vs → D.okDs ds n = true → DpAll K H vs (D.pys ds)
  | [], vs, _, h, _ => by cases h; exact .nil
  | d :: ds, vs, n, h, k => by
    obtain ⟨v, r, rfl, h1, h2⟩ := h
    unfold D.okDs at k
    simp only [Bool.and_eq_true, decide_eq_true_eq] at k
    exact .cons (Rep.dp s d v _ h1 k.2.1) (Reps.dp s ds r n h2 k.2.2)
end
theorem View.dp {K : W.Frag} {F H : Hp} (s : Sub F H) {d : D} {v : V} {n : Nat} (h : View mg nm F H d v) (k : d.okD n = true) : Dp K H v d.py := by
  rcases h with h | ⟨a, vs, ds, rfl, rfl, e, r⟩
  · exact h.dp s d v n k
  · unfold D.okD at k
    exact .lst (SqL.of e) (Reps.dp s ds vs n r k)

/-! ### one, two operands -/
theorem bin_gen {p : Prim} {r : R2} {ea eb : Ex} (G : ∀ F H x y d e o Q, Sub F H → View X.mg P.nm F H d x → View X.mg P.nm F H e y → prim p [d, e] = some o → Out X.mg P.nm F H o Q → r x y H Q) :
    ∀ σ H Q, tE X.mg P (.pr p [ea, eb]) σ H Q → tOp r (tH X.mg P ea) (tH X.mg P eb) σ H Q := by
  rintro σ H Q ⟨F, Z, ε, R, h⟩
  refine read2 R (pr_setup R h) fun hs ε' F' H' Z' x y S r' q => ?_
  obtain ⟨F2, ds, o, s, v, e, k⟩ := q
  cases ds with
  | nil => cases v
  | cons d ds =>
    obtain ⟨x', w, e1, v1, v2⟩ := v
    cases ds with
    | nil => cases v2; cases e1
    | cons d2 ds =>
      obtain ⟨y', w2, e2, v2', v3⟩ := v2
      cases e1; cases e2
      cases ds with
      | nil => exact G F2 H' _ _ d d2 o Q s v1 v2' e k
      | cons d3 ds => obtain ⟨_, _, e3, _⟩ := v3; cases e3
theorem un_gen {p : Prim} {r : V → Hp → VK → Prop} {ea : Ex} (G : ∀ F H x d o Q, Sub F H → View X.mg P.nm F H d x → prim p [d] = some o → Out X.mg P.nm F H o Q → r x H Q) :
    ∀ σ H Q, tE X.mg P (.pr p [ea]) σ H Q → tUn r (tH X.mg P ea) σ H Q := by
  rintro σ H Q ⟨F, Z, ε, R, h⟩
  refine read1 R (pr_setup R h) fun hs ε' F' H' Z' x S r' q => ?_
  obtain ⟨F2, ds, o, s, v, e, k⟩ := q
  cases ds with
  | nil => cases v
  | cons d ds =>
    obtain ⟨x', w, e1, v1, v2⟩ := v
    cases e1
    cases ds with
    | nil => exact G F2 H' _ d o Q s v1 e k
    | cons d3 ds => obtain ⟨_, _, e3, _⟩ := v2; cases e3
theorem View.rep {F H : Hp} {d : D} {v : V} (h : View mg nm F H d v) (n : ∀ ds, d ≠ .lst ds) : Rep mg nm F d v := by
  rcases h with h | ⟨a, vs, ds, rfl, _⟩
  · exact h
  · exact absurd rfl (n ds)
theorem View.int {F H : Hp} {i : Int} {v : V} (h : View mg nm F H (.int i) v) : v = .int i := h.rep (fun _ z => by cases z)
theorem View.str {F H : Hp} {i : Str} {v : V} (h : View mg nm F H (.str i) v) : v = .str i := h.rep (fun _ z => by cases z)
theorem View.bl {F H : Hp} {i : Bool} {v : V} (h : View mg nm F H (.bl i) v) : v = .bl i := h.rep (fun _ z => by cases z)
theorem View.non {F H : Hp} {v : V} (h : View mg nm F H .non v) : v = .non := h.rep (fun _ z => by cases z)
theorem View.tup {F H : Hp} {ds : List D} {v : V} (s : Sub F H) (h : View mg nm F H (.tup ds) v) : ∃ a vs, v = .ref a ∧ H a = some (.tup vs) ∧ Reps mg nm F ds vs := by
  obtain ⟨a, vs, e, q, r⟩ := h.rep (fun _ z => by cases z)
  exact ⟨a, vs, e, s _ _ q, r⟩
theorem View.scr {F H : Hp} {ns : List Int} {v : V} (s : Sub F H) (h : View mg nm F H (.scr ns) v) : ∃ a, v = .ref a ∧ SqL nm.K H a (ns.map V.int) := by
  obtain ⟨a, e, q⟩ := h.rep (fun _ z => by cases z)
  refine ⟨a, e, ?_⟩
  rcases q with (q | ⟨o, q⟩) | q
  · exact .inl (.inl (s _ _ q))
  · exact .inl (.inr ⟨o, s _ _ q⟩)
  · exact .inr q

abbrev Bin (X : Cx) (P : Pm) (p : Prim) (r : R2) : Prop := ∀ F H x y d e o Q, Sub F H → View X.mg P.nm F H d x → View X.mg P.nm F H e y → prim p [d, e] = some o → Out X.mg P.nm F H o Q → r x y H Q
theorem b_add : Bin X P .add (fun x y H Q => rI0 (fun i j => .int (i + j)) x y H Q ∨ rCat x y H Q ∨ (fun x y H Q => ∃ i j, x = .str i ∧ y = .str j ∧ i.length + j.length ≤ sizeLine ∧ Q (.str (i ++ j)) H) x y H Q) := by
  intro F H x y d e o Q s v1 v2 h k
  replace h : p_add [d, e] = some o := h
  unfold p_add at h
  split at h <;> (try contradiction)
  · rename_i i j q
    cases q; cases h
    rw [v1.int, v2.int]
    exact .inl ⟨i, j, rfl, rfl, k.here s rfl⟩
  · rename_i xs ys q
    cases q
    split at h
    · cases h
      obtain ⟨a, vs, rfl, e1, r1⟩ := v1.list s
      obtain ⟨b, ws, rfl, e2, r2⟩ := v2.list s
      refine .inr (.inl ⟨a, b, vs, ws, rfl, rfl, e1, e2, ?_, fun p hp => k.list s (r1.append r2) hp⟩)
      rw [r1.length, r2.length, sizeLine_eq]; assumption
    · cases h
  · rename_i xs ys q
    cases q
    split at h
    · cases h
      rw [v1.str, v2.str]
      exact .inr (.inr ⟨_, _, rfl, rfl, by rw [sizeLine_eq]; assumption, k.here s rfl⟩)
    · cases h
theorem b_sub : Bin X P .sub (rI0 (fun i j => .int (i - j))) := by
  intro F H x y d e o Q s v1 v2 h k
  replace h : p_sub [d, e] = some o := h
  unfold p_sub at h
  split at h <;> (try contradiction)
  rename_i i j q
  cases q; cases h
  rw [v1.int, v2.int]
  exact ⟨i, j, rfl, rfl, k.here s rfl⟩
theorem b_mul : Bin X P .mul (fun x y H Q => rI CMulW (fun i j => .int (i * j)) x y H Q ∨ rRep x y H Q) := by
  intro F H x y d e o Q s v1 v2 h k
  replace h : p_mul [d, e] = some o := h
  unfold p_mul at h
  split at h <;> (try contradiction)
  · rename_i i j q
    cases q
    split at h
    · rename_i c
      cases h
      rw [v1.int, v2.int]
      refine .inl ⟨i, j, rfl, rfl, ?_, k.here s rfl⟩
      unfold big at c
      simp only [Bool.and_eq_true, decide_eq_true_eq] at c
      unfold CMulW; omega
    · cases h
  · rename_i xs n q
    cases q
    split at h
    · rename_i c
      cases h
      obtain ⟨a, vs, rfl, e1, r1⟩ := v1.list s
      rw [v2.int]
      exact .inr ⟨a, n, vs, rfl, rfl, e1, c.1, c.2.1, by rw [r1.length, sizeLine_eq]; exact c.2.2, fun p hp => k.list s (r1.rep _) hp⟩
    · cases h
theorem b_fdiv : Bin X P .fdiv (rI CDivW (fun i j => .int (i / j))) := by
  intro F H x y d e o Q s v1 v2 h k
  replace h : p_fdiv [d, e] = some o := h
  unfold p_fdiv at h
  split at h <;> (try contradiction)
  rename_i i j q
  cases q
  split at h
  · rename_i c
    cases h
    rw [v1.int, v2.int]
    exact ⟨i, j, rfl, rfl, c, k.here s rfl⟩
  · cases h
theorem b_mod : Bin X P .mod (rI (fun _ j => 0 < j) (fun i j => .int (i % j))) := by
  intro F H x y d e o Q s v1 v2 h k
  replace h : p_mod [d, e] = some o := h
  unfold p_mod at h
  split at h <;> (try contradiction)
  rename_i i j q
  cases q
  split at h
  · rename_i c
    cases h
    rw [v1.int, v2.int]
    exact ⟨i, j, rfl, rfl, c, k.here s rfl⟩
  · cases h
def CPowE (i j : Int) : Prop := 0 ≤ j ∧ (i.natAbs.log2 + 1) * j.toNat ≤ 100000
theorem op_powE : OpR X (binaryOp .Pow) (rI CPowE fun i j => .int (i ^ j.toNat)) := opI fun i j _ _ _ _ _ hc q => by
  refine PyProof.Rows.pow_int hc.1 ?_ q
  have h1 : Builtin.Int.intBits i ≤ i.natAbs.log2 + 1 := by
    unfold Builtin.Int.intBits
    split <;> omega
  have h2 : Builtin.Int.intBits i * j.toNat ≤ 100000 := Nat.le_trans (Nat.mul_le_mul_right _ h1) hc.2
  have h3 : ((Builtin.Int.intBits i * j.toNat : Nat) : Int) ≤ 100000 := Int.ofNat_le.mpr h2
  rw [Int.natCast_mul, Int.toNat_of_nonneg hc.1] at h3
  omega
theorem b_pow : Bin X P .pow (rI CPowE (fun i j => .int (i ^ j.toNat))) := by
  intro F H x y d e o Q s v1 v2 h k
  replace h : p_pow [d, e] = some o := h
  unfold p_pow at h
  split at h <;> (try contradiction)
  rename_i i j q
  cases q
  split at h
  · rename_i c
    cases h
    rw [v1.int, v2.int]
    exact ⟨i, j, rfl, rfl, c, k.here s rfl⟩
  · cases h
/-! ### comparisons -/
def rEq0 : R2 := fun x y H Q => ∃ a b xs, x = .ref a ∧ y = .ref b ∧ H a = some (.lst xs) ∧ H b = some (.lst []) ∧ xs ≠ [] ∧ Q (.bl false) H
def rNe0 : R2 := fun x y H Q => ∃ a b xs, x = .ref a ∧ y = .ref b ∧ H a = some (.lst xs) ∧ H b = some (.lst []) ∧ xs ≠ [] ∧ Q (.bl true) H
theorem op_eq0 (hu : X.A.units + 64 < cLine) : OpR X (compareOp .Eq) rEq0 := by
  intro pins s σ H x y v u Q I rx ry h
  obtain ⟨a, b, xs, rfl, rfl, h1, h2, hn, q⟩ := h
  cases rx; cases ry
  obtain ⟨i1, r1, p1, _⟩ := I.list (SqL.of h1)
  obtain ⟨i2, r2, p2, _⟩ := I.list (SqL.of h2)
  refine SeqAt.eq_list_lengthsAt p1.isList p2.isList ?_ (by omega) ⟨.bl false, H, I, rfl, q⟩
  have e1 := r1.length
  have e2 := r2.length
  have : xs.length ≠ 0 := fun z => hn (List.eq_nil_of_length_eq_zero z)
  simp at e2 ⊢
  omega
theorem op_ne0 (hu : X.A.units + 64 < cLine) : OpR X (compareOp .NotEq) rNe0 := by
  intro pins s σ H x y v u Q I rx ry h
  obtain ⟨a, b, xs, rfl, rfl, h1, h2, hn, q⟩ := h
  cases rx; cases ry
  obtain ⟨i1, r1, p1, _⟩ := I.list (SqL.of h1)
  obtain ⟨i2, r2, p2, _⟩ := I.list (SqL.of h2)
  refine SeqAt.RcNeAt.lists_lengths p1.isList p2.isList ?_ (by omega) _ _ _ _ ⟨.bl true, H, I, rfl, q⟩
  have e1 := r1.length
  have e2 := r2.length
  have : xs.length ≠ 0 := fun z => hn (List.eq_nil_of_length_eq_zero z)
  simp at e2 ⊢
  omega
theorem b_eq {K : W.Frag} : Bin X P .eq (fun x y H Q => rEqD K x y H Q ∨ rEq0 x y H Q) := by
  intro F H x y d e o Q s v1 v2 h k
  replace h : (if (d.okD 60 && e.okD 60) = true then some (O.im (.bl (D.eqv d e))) else p_eq0 d e) = some o := h
  split at h
  · rename_i c
    cases h
    simp only [Bool.and_eq_true] at c
    exact .inl ⟨_, _, v1.dp s c.1, v2.dp s c.2, shaped_of c.1 (by decide), shaped_of c.2 (by decide), by rw [eqv_of _ _ _ _ c.1 c.2]; exact k.here s rfl⟩
  · rename_i c
    first | unfold p_eq0 at h | unfold p_ne0 at h
    split at h <;> (try contradiction)
    rename_i xs
    cases h
    obtain ⟨a, vs, rfl, e1, r1⟩ := v1.list s
    obtain ⟨b, ws, rfl, e2, r2⟩ := v2.list s
    cases r2
    have hx : xs ≠ [] := fun z => by subst z; exact c rfl
    refine .inr ⟨a, b, vs, rfl, rfl, e1, e2, fun z => hx ?_, ?_⟩
    · subst z; exact List.eq_nil_of_length_eq_zero r1.length.symm
    · have : xs.isEmpty = false := by cases xs with
        | nil => exact absurd rfl hx
        | cons _ _ => rfl
      rw [this] at k
      exact k.here s rfl
theorem b_ne {K : W.Frag} : Bin X P .ne (fun x y H Q => rNeD K x y H Q ∨ rNe0 x y H Q) := by
  intro F H x y d e o Q s v1 v2 h k
  replace h : (if (d.okD 60 && e.okD 60) = true then some (O.im (.bl (!D.eqv d e))) else p_ne0 d e) = some o := h
  split at h
  · rename_i c
    cases h
    simp only [Bool.and_eq_true] at c
    exact .inl ⟨_, _, v1.dp s c.1, v2.dp s c.2, shaped_of c.1 (by decide), shaped_of c.2 (by decide), by rw [eqv_of _ _ _ _ c.1 c.2]; exact k.here s rfl⟩
  · rename_i c
    first | unfold p_eq0 at h | unfold p_ne0 at h
    split at h <;> (try contradiction)
    rename_i xs
    cases h
    obtain ⟨a, vs, rfl, e1, r1⟩ := v1.list s
    obtain ⟨b, ws, rfl, e2, r2⟩ := v2.list s
    cases r2
    have hx : xs ≠ [] := fun z => by subst z; exact c rfl
    refine .inr ⟨a, b, vs, rfl, rfl, e1, e2, fun z => hx ?_, ?_⟩
    · subst z; exact List.eq_nil_of_length_eq_zero r1.length.symm
    · have : xs.isEmpty = false := by cases xs with
        | nil => exact absurd rfl hx
        | cons _ _ => rfl
      rw [this] at k
      exact k.here s rfl
theorem b_lt : Bin X P .lt (rI0 fun i j => .bl (decide (i < j))) := by
  intro F H x y d e o Q s v1 v2 h k
  replace h : p_lt [d, e] = some o := h
  unfold p_lt at h
  split at h <;> (try contradiction)
  rename_i i j q
  cases q; cases h
  rw [v1.int, v2.int]
  exact ⟨i, j, rfl, rfl, k.here s rfl⟩
theorem b_le : Bin X P .le (rI0 fun i j => .bl (decide (i ≤ j))) := by
  intro F H x y d e o Q s v1 v2 h k
  replace h : p_le [d, e] = some o := h
  unfold p_le at h
  split at h <;> (try contradiction)
  rename_i i j q
  cases q; cases h
  rw [v1.int, v2.int]
  exact ⟨i, j, rfl, rfl, k.here s rfl⟩
theorem b_gt : Bin X P .gt (rI0 fun i j => .bl (decide (j < i))) := by
  intro F H x y d e o Q s v1 v2 h k
  replace h : p_gt [d, e] = some o := h
  unfold p_gt at h
  split at h <;> (try contradiction)
  rename_i i j q
  cases q; cases h
  rw [v1.int, v2.int]
  exact ⟨i, j, rfl, rfl, k.here s rfl⟩
theorem b_ge : Bin X P .ge (rI0 fun i j => .bl (decide (j ≤ i))) := by
  intro F H x y d e o Q s v1 v2 h k
  replace h : p_ge [d, e] = some o := h
  unfold p_ge at h
  split at h <;> (try contradiction)
  rename_i i j q
  cases q; cases h
  rw [v1.int, v2.int]
  exact ⟨i, j, rfl, rfl, k.here s rfl⟩
/-- x is True, whatever x -/
def isB (b : Bool) : V → Bool
  | .bl c => c == b
  | _ => false
def rIsA : R2 := fun x y H Q => ∃ b : Bool, y = .bl b ∧ Q (.bl (isB b x)) H
theorem op_isA : OpR X (compareOp .Is) rIsA := by
  intro pins s σ H x y v u Q I rx ry h
  obtain ⟨b, rfl, q⟩ := h
  cases (show u = Value.bool b from ry)
  by_cases e : v = Value.bool b
  · subst e
    have ex : x = .bl b := RelV.inj rx (show RelV (.bl b) (Value.bool b) from rfl)
    subst ex
    refine wpAny_is_self rfl ⟨.bl true, H, I, rfl, ?_⟩
    have : isB b (.bl b) = true := by simp [isB]
    rw [this] at q; exact q
  · have ex : isB b x = false := by
      cases x with
      | bl c =>
        cases (show v = Value.bool c from rx)
        by_cases h2 : c = b
        · subst h2; exact absurd rfl e
        · simp [isB, h2]
      | _ => rfl
    rw [ex] at q
    cases x with
    | non => cases (show v = Value.none from rx); exact wpAny_is_other rfl (fun z => nomatch z) ⟨.bl false, H, I, rfl, q⟩
    | bl c => cases (show v = Value.bool c from rx); exact wpAny_is_other rfl e ⟨.bl false, H, I, rfl, q⟩
    | int i => obtain ⟨t, rfl⟩ := rx; exact wpAny_is_other rfl (fun z => nomatch z) ⟨.bl false, H, I, rfl, q⟩
    | str i => obtain ⟨t, rfl⟩ := rx; exact wpAny_is_other rfl (fun z => nomatch z) ⟨.bl false, H, I, rfl, q⟩
    | byt i => obtain ⟨t, rfl⟩ := rx; exact wpAny_is_other rfl (fun z => nomatch z) ⟨.bl false, H, I, rfl, q⟩
    | flt i => obtain ⟨t, rfl⟩ := rx; exact wpAny_is_other rfl (fun z => nomatch z) ⟨.bl false, H, I, rfl, q⟩
    | ref a => cases (show v = Value.ref a from rx); exact wpAny_is_other rfl (fun z => nomatch z) ⟨.bl false, H, I, rfl, q⟩
    | ty n => cases (show v = Value.type n from rx); exact wpAny_is_other rfl (fun z => nomatch z) ⟨.bl false, H, I, rfl, q⟩
theorem Rep.ne_non {F : Hp} {d : D} (h : Rep mg nm F d .non) : d = .non := by
  cases d with
  | non => rfl
  | bl b => exact absurd (show V.non = .bl b from h) (by simp)
  | int b => exact absurd (show V.non = .int b from h) (by simp)
  | str b => exact absurd (show V.non = .str b from h) (by simp)
  | lst xs => obtain ⟨a, vs, e, _⟩ := h; cases e
  | tup xs => obtain ⟨a, vs, e, _⟩ := h; cases e
  | dct _ => exact False.elim h
  | scr _ => obtain ⟨a, e, _⟩ := h; cases e
  | fn _ => obtain ⟨a, e, _⟩ := h; cases e
  | ty b => exact absurd (show V.non = .ty b from h) (by simp)
  | cls _ => obtain ⟨a, e, _⟩ := h; cases e
  | exc _ _ => obtain ⟨a, _, _, _, _, e, _⟩ := h; cases e
theorem Rep.of_bl {F : Hp} {d : D} {b : Bool} (h : Rep mg nm F d (.bl b)) : d = .bl b := by
  cases d with
  | non => exact absurd (show V.bl b = .non from h) (by simp)
  | bl c => have e : V.bl b = .bl c := h; cases e; rfl
  | int c => exact absurd (show V.bl b = .int c from h) (by simp)
  | str c => exact absurd (show V.bl b = .str c from h) (by simp)
  | lst xs => obtain ⟨a, vs, e, _⟩ := h; cases e
  | tup xs => obtain ⟨a, vs, e, _⟩ := h; cases e
  | dct _ => exact False.elim h
  | scr _ => obtain ⟨a, e, _⟩ := h; cases e
  | fn _ => obtain ⟨a, e, _⟩ := h; cases e
  | ty c => exact absurd (show V.bl b = .ty c from h) (by simp)
  | cls _ => obtain ⟨a, e, _⟩ := h; cases e
  | exc _ _ => obtain ⟨a, _, _, _, _, e, _⟩ := h; cases e
theorem View.isNon {F H : Hp} {d : D} {v : V} (h : View mg nm F H d v) : decide (v = .non) = d.isN := by
  by_cases e : v = .non
  · subst e
    rcases h with h | ⟨a, vs, ds, _, e2, _⟩
    · rw [h.ne_non]; rfl
    · cases e2
  · rw [decide_eq_false e]
    cases d with
    | non => exact absurd (View.non h) e
    | _ => rfl
theorem View.isBl {F H : Hp} {d : D} {v : V} {b : Bool} (h : View mg nm F H d v) : isB b v = d.isB b := by
  cases v with
  | bl c =>
    rcases h with h | ⟨a, vs, ds, _, e2, _⟩
    · rw [h.of_bl]; rfl
    · cases e2
  | _ =>
    cases d with
    | bl c => exact absurd (View.bl h) (by simp)
    | _ => rfl
theorem b_is : Bin X P .is_ (fun x y H Q => rIsN x y H Q ∨ rIsA x y H Q) := by
  intro F H x y d e o Q s v1 v2 h k
  replace h : p_is_ [d, e] = some o := h
  unfold p_is_ at h
  split at h <;> (try contradiction)
  · rename_i d' q
    cases q; cases h
    refine .inl ⟨v2.non, ?_⟩
    rw [v1.isNon]
    exact k.here s rfl
  · rename_i d' b q
    cases q; cases h
    refine .inr ⟨b, v2.bl, ?_⟩
    rw [v1.isBl]
    exact k.here s rfl
theorem b_isn : Bin X P .isn rNotN := by
  intro F H x y d e o Q s v1 v2 h k
  replace h : p_isn [d, e] = some o := h
  unfold p_isn at h
  split at h <;> (try contradiction)
  rename_i d' q
  cases q; cases h
  refine ⟨v2.non, ?_⟩
  rw [v1.isNon]
  exact k.here s rfl
/-! ### in -/
theorem any_of : ∀ (ds : List D) (d : D) (n m : Nat), D.okDs ds n = true → d.okD m = true → (D.pys ds).any (fun z => PyData.eqv z d.py) = ds.any fun z => D.eqv z d
  | [], _, _, _, _, _ => rfl
  | x :: ds, d, n, m, h, k => by
    unfold D.okDs at h
    simp only [Bool.and_eq_true, decide_eq_true_eq] at h
    show (PyData.eqv x.py d.py || (D.pys ds).any fun z => PyData.eqv z d.py) = (x :: ds).any fun z => D.eqv z d
    rw [List.any_cons, eqv_of x d _ _ h.2.1 k, any_of ds d n m h.2.2 k]
theorem Rep.flatV {F : Hp} {d : D} {v : V} (h : Rep mg nm F d v) (k : d.okD 0 = true) : L2.flatV v = true := by
  cases d with
  | non => rw [show v = .non from h]; rfl
  | bl b => rw [show v = .bl b from h]; rfl
  | int b => rw [show v = .int b from h]; rfl
  | str b => rw [show v = .str b from h]; rfl
  | lst xs => unfold D.okD at k; cases xs <;> simp [D.okDs] at k
  | tup xs => unfold D.okD at k; cases xs <;> simp [D.okDs] at k
  | _ => cases k
theorem Rep.eqV {F : Hp} {d e : D} {v u : V} (h : Rep mg nm F d v) (k : d.okD 0 = true) (h' : Rep mg nm F e u) (k' : e.okD 0 = true) : L2.eqV v u = D.eqv d e := by
  cases d with
  | lst xs => unfold D.okD at k; cases xs <;> simp [D.okDs] at k
  | tup xs => unfold D.okD at k; cases xs <;> simp [D.okDs] at k
  | dct _ => cases k
  | scr _ => cases k
  | fn _ => cases k
  | ty _ => cases k
  | cls _ => cases k
  | exc _ _ => cases k
  | non => cases e with
    | lst xs => unfold D.okD at k'; cases xs <;> simp [D.okDs] at k'
    | tup xs => unfold D.okD at k'; cases xs <;> simp [D.okDs] at k'
    | dct _ => cases k'
    | scr _ => cases k'
    | fn _ => cases k'
    | ty _ => cases k'
    | cls _ => cases k'
    | exc _ _ => cases k'
    | _ => rw [show v = _ from h, show u = _ from h']; rfl
  | bl b => cases e with
    | lst xs => unfold D.okD at k'; cases xs <;> simp [D.okDs] at k'
    | tup xs => unfold D.okD at k'; cases xs <;> simp [D.okDs] at k'
    | dct _ => cases k'
    | scr _ => cases k'
    | fn _ => cases k'
    | ty _ => cases k'
    | cls _ => cases k'
    | exc _ _ => cases k'
    | _ => rw [show v = _ from h, show u = _ from h']; rfl
  | int b => cases e with
    | lst xs => unfold D.okD at k'; cases xs <;> simp [D.okDs] at k'
    | tup xs => unfold D.okD at k'; cases xs <;> simp [D.okDs] at k'
    | dct _ => cases k'
    | scr _ => cases k'
    | fn _ => cases k'
    | ty _ => cases k'
    | cls _ => cases k'
    | exc _ _ => cases k'
    | int c => rw [show v = _ from h, show u = _ from h']; unfold D.eqv; exact Bool.beq_eq_decide_eq b c
    | _ => rw [show v = _ from h, show u = _ from h']; rfl
  | str b => cases e with
    | lst xs => unfold D.okD at k'; cases xs <;> simp [D.okDs] at k'
    | tup xs => unfold D.okD at k'; cases xs <;> simp [D.okDs] at k'
    | dct _ => cases k'
    | scr _ => cases k'
    | fn _ => cases k'
    | ty _ => cases k'
    | cls _ => cases k'
    | exc _ _ => cases k'
    | str c => rw [show v = _ from h, show u = _ from h']; unfold D.eqv; exact Bool.beq_eq_decide_eq b c
    | _ => rw [show v = _ from h, show u = _ from h']; rfl
theorem Reps.inV {F : Hp} {d : D} {v : V} (h : Rep mg nm F d v) (k : d.okD 0 = true) : ∀ {ds : List D} {vs : List V}, Reps mg nm F ds vs → ds.all (fun z => D.okD z 0) = true → vs.all L2.flatV = true ∧ L2.inV v vs = ds.any fun z => D.eqv z d
  | [], vs, r, _ => by cases r; exact ⟨rfl, rfl⟩
  | e :: ds, vs, r, q => by
    obtain ⟨u, w, rfl, h1, h2⟩ := r
    simp only [List.all_cons, Bool.and_eq_true] at q
    obtain ⟨i1, i2⟩ := Reps.inV h k h2 q.2
    refine ⟨by simp only [List.all_cons, Bool.and_eq_true]; exact ⟨h1.flatV q.1, i1⟩, ?_⟩
    show (L2.eqV u v || w.any fun y => L2.eqV y v) = _
    rw [h1.eqV q.1 h k, List.any_cons]
    congr 1
theorem b_in {K : W.Frag} : Bin X P .in_ (fun x y H Q => rInD K x y H Q ∨ rIn K false x y H Q) := by
  intro F H x y d e o Q s v1 v2 h k
  replace h : p_in_ [d, e] = some o := h
  unfold p_in_ at h
  split at h <;> (try contradiction)
  · rename_i d' xs q
    cases q
    split at h
    · rename_i c
      cases h
      simp only [Bool.and_eq_true] at c
      have cl : (D.lst xs).okD 60 = true := by unfold D.okD; exact c.2
      refine .inl ⟨_, _, v1.dp s c.1, v2.dp s cl, shaped_of c.1 (by decide), shaped_of cl (by decide), ?_⟩
      rw [any_of xs d 60 60 c.2 c.1]
      exact k.here s rfl
    · cases h
  · rename_i d' xs q
    cases q
    split at h
    · rename_i c
      cases h
      simp only [Bool.and_eq_true] at c
      obtain ⟨a, vs, rfl, e1, r1⟩ := v2.tup s
      have r0 : Rep X.mg P.nm F d x := v1.rep fun ds z => by
        have c1 := c.1
        rw [z] at c1
        unfold D.okD at c1; cases ds <;> simp [D.okDs] at c1
      obtain ⟨i1, i2⟩ := Reps.inV r0 c.1 r1 c.2
      refine .inr ⟨a, vs, rfl, .inr (SqT.of e1), r0.flatV c.1, i1, ?_⟩
      show Q (.bl (L2.inV x vs)) H
      rw [i2]
      exact k.here s rfl
    · cases h
  · rename_i d' kvs q
    cases q
    exact (v2.rep fun _ z => by cases z).elim
theorem b_nin {K : W.Frag} : Bin X P .nin (fun x y H Q => rNotInD K x y H Q ∨ rIn K true x y H Q) := by
  intro F H x y d e o Q s v1 v2 h k
  replace h : p_nin [d, e] = some o := h
  unfold p_nin at h
  split at h <;> (try contradiction)
  · rename_i d' xs q
    cases q
    split at h
    · rename_i c
      cases h
      simp only [Bool.and_eq_true] at c
      have cl : (D.lst xs).okD 60 = true := by unfold D.okD; exact c.2
      refine .inl ⟨_, _, v1.dp s c.1, v2.dp s cl, shaped_of c.1 (by decide), shaped_of cl (by decide), ?_⟩
      rw [any_of xs d 60 60 c.2 c.1]
      exact k.here s rfl
    · cases h
  · rename_i d' xs q
    cases q
    split at h
    · rename_i c
      cases h
      simp only [Bool.and_eq_true] at c
      obtain ⟨a, vs, rfl, e1, r1⟩ := v2.tup s
      have r0 : Rep X.mg P.nm F d x := v1.rep fun ds z => by
        have c1 := c.1
        rw [z] at c1
        unfold D.okD at c1; cases ds <;> simp [D.okDs] at c1
      obtain ⟨i1, i2⟩ := Reps.inV r0 c.1 r1 c.2
      refine .inr ⟨a, vs, rfl, .inr (SqT.of e1), r0.flatV c.1, i1, ?_⟩
      show Q (.bl (!L2.inV x vs)) H
      rw [i2]
      exact k.here s rfl
    · cases h
  · rename_i d' kvs q
    cases q
    exact (v2.rep fun _ z => by cases z).elim

/-! ### the syntax -/
def binOf : Prim → Option Operator
  | .add => some .Add
  | .sub => some .Sub
  | .mul => some .Mult
  | .fdiv => some .FloorDiv
  | .mod => some .Mod
  | .pow => some .Pow
  | _ => none
def cmpOf : Prim → Option CmpOp
  | .eq => some .Eq
  | .ne => some .NotEq
  | .lt => some .Lt
  | .le => some .LtE
  | .gt => some .Gt
  | .ge => some .GtE
  | .is_ => some .Is
  | .isn => some .IsNot
  | .in_ => some .In
  | .nin => some .NotIn
  | _ => none
theorem bin_rule {p : Prim} {op : Operator} (h : binOf p = some op) : ∃ r, OpR X (binaryOp op) r ∧ Bin X P p r := by
  cases p <;> cases h
  · exact ⟨_, OpR.or op_add (OpR.or op_cat op_add_str), b_add⟩
  · exact ⟨_, op_sub, b_sub⟩
  · exact ⟨_, OpR.or op_mulW op_rep, b_mul⟩
  · exact ⟨_, op_fdivW, b_fdiv⟩
  · exact ⟨_, op_mod, b_mod⟩
  · exact ⟨_, op_powE, b_pow⟩
theorem cmp_rule {p : Prim} {op : CmpOp} (hu : X.A.units + 65 < cLine) (h : cmpOf p = some op) : ∃ r, OpR X (compareOp op) r ∧ Bin X P p r := by
  cases p <;> cases h
  · exact ⟨_, OpR.or (op_eqD (by omega)) (op_eq0 (by omega)), b_eq⟩
  · exact ⟨_, OpR.or (op_neD (by omega)) (op_ne0 (by omega)), b_ne⟩
  · exact ⟨_, op_lt, b_lt⟩
  · exact ⟨_, op_le, b_le⟩
  · exact ⟨_, op_gt, b_gt⟩
  · exact ⟨_, op_ge, b_ge⟩
  · exact ⟨_, OpR.or op_isN1 op_isA, b_is⟩
  · exact ⟨_, op_notN1, b_isn⟩
  · exact ⟨_, OpR.or (op_inD hu) op_in_seq, b_in⟩
  · exact ⟨_, OpR.or (op_notInD hu) op_notIn_seq, b_nin⟩
end
end Ev
end
section
set_option linter.all false
set_option maxRecDepth 100000
set_option maxHeartbeats 4000000
/-! Subscripts, argument lists, built-in functions. -/
namespace Ev
open PySem L2
section
variable {X : Cx} {P : Pm} {nm : Nm} {mg : Str → Option Value}
theorem atI_reps {F : Hp} {ds : List D} {vs : List V} {i : Int} {d : D} (r : Reps mg nm F ds vs) (h : L2.atI ds i = some d) : ∃ v, L2.atI vs i = some v ∧ Rep mg nm F d v := by
  unfold L2.atI at h ⊢
  rw [r.length]
  cases e : L2.ixN ds.length i with
  | none => rw [e] at h; cases h
  | some j =>
    rw [e] at h
    exact r.get h
theorem b_idx : Bin X P .idx (fun x y H Q => rIxL P.nm.K x y H Q ∨ rIxT P.nm.K x y H Q) := by
  intro F H x y d e o Q s v1 v2 h k
  replace h : p_idx [d, e] = some o := h
  unfold p_idx at h
  split at h <;> (try contradiction)
  · rename_i xs i q
    cases q
    cases e1 : L2.atI xs i with
    | none => rw [e1] at h; cases h
    | some d =>
      rw [e1] at h; cases h
      obtain ⟨a, vs, rfl, e2, r⟩ := v1.list s
      obtain ⟨v, e3, r3⟩ := atI_reps r e1
      rw [v2.int]
      exact .inl ⟨a, vs, i, v, rfl, rfl, SqL.of e2, e3, k.here s r3⟩
  · rename_i xs i q
    cases q
    cases e1 : L2.atI xs i with
    | none => rw [e1] at h; cases h
    | some d =>
      rw [e1] at h; cases h
      obtain ⟨a, vs, rfl, e2, r⟩ := v1.tup s
      obtain ⟨v, e3, r3⟩ := atI_reps r e1
      rw [v2.int]
      exact .inr ⟨a, vs, i, v, rfl, rfl, SqT.of e2, e3, k.here s r3⟩
  · rename_i ns i q
    cases q
    cases e1 : L2.atI ns i with
    | none => rw [e1] at h; cases h
    | some d =>
      rw [e1] at h; cases h
      obtain ⟨a, rfl, e2⟩ := v1.scr s
      rw [v2.int]
      refine .inl ⟨a, ns.map V.int, i, .int d, rfl, rfl, e2, ?_, k.here s rfl⟩
      unfold L2.atI at e1 ⊢
      rw [List.length_map]
      cases e4 : L2.ixN ns.length i with
      | none => rw [e4] at e1; cases e1
      | some j =>
        rw [e4] at e1
        have e5 : ns[j]? = some d := e1
        show (ns.map V.int)[j]? = some (V.int d)
        rw [List.getElem?_map, e5]; rfl
  · rename_i kvs i q
    cases q
    exact (v1.rep fun _ z => by cases z).elim

/-! ### slices -/
theorem cut_reps {F : Hp} {ds : List D} {vs : List V} (lo hi : Option Int) (r : Reps mg nm F ds vs) : Reps mg nm F (cutD ds lo hi) (cutV vs lo hi) := by
  unfold cutD cutV
  rw [r.length]
  exact (r.drop _).take _
abbrev Slc (X : Cx) (P : Pm) (d : D) (lo hi : Option Int) (o : O) : Prop := ∀ F H x Q, Sub F H → View X.mg P.nm F H d x → Out X.mg P.nm F H o Q → rSlL P.nm.K x lo hi H Q
theorem slc_list {xs : List D} {lo hi : Option Int} : Slc X P (.lst xs) lo hi (.ls (cutD xs lo hi)) := fun F H x Q s v k => by
  obtain ⟨a, vs, rfl, e, r⟩ := v.list s
  exact ⟨a, vs, rfl, SqL.of e, fun p hp => k.list s (cut_reps lo hi r) hp⟩
theorem slc_scr {ns : List Int} {lo hi : Option Int} : Slc X P (.scr ns) lo hi (.ls (cutD (ns.map D.int) lo hi)) := fun F H x Q s v k => by
  obtain ⟨a, rfl, e⟩ := v.scr s
  exact ⟨a, _, rfl, e, fun p hp => k.list s (cut_reps lo hi (Reps.ofInts ns)) hp⟩
theorem slc00 {d : D} {o : O} (h : prim (.slc false false) [d] = some o) : Slc X P d none none o := by
  replace h : p_slc false false [d] = some o := h
  cases d <;> first
    | (cases h; exact slc_list)
    | cases h
theorem slc10 {d e : D} {o : O} (h : prim (.slc true false) [d, e] = some o) : ∃ i, e = .int i ∧ Slc X P d (some i) none o := by
  replace h : p_slc true false [d, e] = some o := h
  cases d <;> cases e <;> first
    | (cases h; exact ⟨_, rfl, slc_list⟩)
    | cases h
theorem slc01 {d e : D} {o : O} (h : prim (.slc false true) [d, e] = some o) : ∃ i, e = .int i ∧ Slc X P d none (some i) o := by
  replace h : p_slc false true [d, e] = some o := h
  cases d <;> cases e <;> first
    | (cases h; exact ⟨_, rfl, slc_list⟩)
    | (cases h; exact ⟨_, rfl, slc_scr⟩)
    | cases h
theorem slc11 {d e f : D} {o : O} (h : prim (.slc true true) [d, e, f] = some o) : ∃ i j, e = .int i ∧ f = .int j ∧ Slc X P d (some i) (some j) o := by
  replace h : p_slc true true [d, e, f] = some o := h
  cases d <;> cases e <;> (try cases h) <;> cases f <;> first
    | (cases h; exact ⟨_, _, rfl, rfl, slc_list⟩)
    | cases h

/-! ### argument lists -/
def tHs (mg : Str → Option Value) (P : Pm) (es : List Ex) : TA := fun σ H Q => ∃ F Z ε, RelS mg P.nm F H σ ε Z ∧ After (evHs P.cl P.sg es ε) (kHs mg P σ F H Z (fun hs ε' F' H' Z' vs S => Q vs H')) (xW mg P σ F H Z)
theorem tHs_nil : ∀ σ H Q, tHs mg P [] σ H Q → tNil σ H Q := fun σ H Q ⟨F, Z, ε, R, h⟩ => after_nil R h
theorem tHs_cons {e : Ex} {es : List Ex} : ∀ σ H Q, tHs mg P (e :: es) σ H Q → tCons (tH mg P e) (tHs mg P es) σ H Q := by
  rintro σ H Q ⟨F, Z, ε, R, h⟩
  refine tH_of R ((after_cons h).imp (fun hh ε1 k F1 H1 Z1 v S1 s1 r1 o1 t1 => ?_) fun _ _ _ z => z)
  exact ⟨F1, Z1, ε1, r1, k F1 H1 Z1 v S1 s1 r1 o1 t1⟩
theorem call_gen {p : Prim} {r : List V → Hp → VK → Prop} {es : List Ex} (G : ∀ F H vs ds o Q, Sub F H → Views X.mg P.nm F H ds vs → prim p ds = some o → Out X.mg P.nm F H o Q → r vs H Q) :
    ∀ σ H Q, tE X.mg P (.pr p es) σ H Q → tCB r (tHs X.mg P es) σ H Q := by
  rintro σ H Q ⟨F, Z, ε, R, h⟩
  refine ⟨F, Z, ε, R, (pr_setup R h).imp (fun hs ε1 k F1 H1 Z1 vs S s1 r1 o1 t1 => ?_) fun _ _ _ z => z⟩
  obtain ⟨G1, ds, o, s, v, e, q⟩ := k F1 H1 Z1 vs S s1 r1 o1 t1
  exact G G1 H1 vs ds o Q s v e q
abbrev Fun (X : Cx) (P : Pm) (p : Prim) (r : List V → Hp → VK → Prop) : Prop := ∀ F H vs ds o Q, Sub F H → Views X.mg P.nm F H ds vs → prim p ds = some o → Out X.mg P.nm F H o Q → r vs H Q
theorem Views.one {F H : Hp} {d : D} {vs : List V} (h : Views mg nm F H [d] vs) : ∃ v, vs = [v] ∧ View mg nm F H d v := by
  obtain ⟨v, r, e, h1, h2⟩ := h
  cases h2
  exact ⟨v, e, h1⟩
theorem Views.two {F H : Hp} {d e : D} {vs : List V} (h : Views mg nm F H [d, e] vs) : ∃ v u, vs = [v, u] ∧ View mg nm F H d v ∧ View mg nm F H e u := by
  obtain ⟨v, r, e, h1, h2⟩ := h
  obtain ⟨u, rfl, h3⟩ := h2.one
  exact ⟨v, u, e, h1, h3⟩
theorem f_len : Fun X P .len (fun xs H Q => (fun xs H Q => ∃ x n, xs = [x] ∧ LenV P.nm.K x H n ∧ Q (.int n) H) xs H Q) := by
  intro F H vs ds o Q s v h k
  replace h : p_len ds = some o := h
  unfold p_len at h
  split at h <;> (try contradiction)
  · cases h
    obtain ⟨u, rfl, v1⟩ := v.one
    obtain ⟨a, vs, rfl, e, r⟩ := v1.list s
    rw [← r.length] at k
    exact ⟨_, vs.length, rfl, .inl ⟨vs, SqL.of e, rfl⟩, k.here s rfl⟩
  · cases h
    obtain ⟨u, rfl, v1⟩ := v.one
    obtain ⟨a, vs, rfl, e, r⟩ := v1.tup s
    rw [← r.length] at k
    exact ⟨_, vs.length, rfl, .inr ⟨vs, SqT.of e, rfl⟩, k.here s rfl⟩
  · obtain ⟨u, rfl, v1⟩ := v.one
    exact (v1.rep fun _ z => by cases z).elim
  · cases h
    obtain ⟨u, rfl, v1⟩ := v.one
    obtain ⟨a, rfl, e⟩ := v1.scr s
    exact ⟨_, _, rfl, .inl ⟨_, e, (List.length_map _).symm⟩, k.here s rfl⟩
  · split at h
    · cases h
      obtain ⟨u, rfl, v1⟩ := v.one
      rw [v1.str]
      exact ⟨_, _, rfl, ⟨by rw [sizeLine_eq]; assumption, rfl⟩, k.here s rfl⟩
    · cases h
theorem f_int1 : Fun X P .int1 (fun xs H Q => (∃ i, xs = [.int i] ∧ Q (.int i) H) ∨ ∃ k, xs = [.bl k] ∧ Q (.int (if k then 1 else 0)) H) := by
  intro F H vs ds o Q s v h k
  replace h : p_int1 ds = some o := h
  unfold p_int1 at h
  split at h <;> (try contradiction)
  · cases h
    obtain ⟨u, rfl, v1⟩ := v.one
    rw [v1.int]
    exact .inl ⟨_, rfl, k.here s rfl⟩
  · cases h
    obtain ⟨u, rfl, v1⟩ := v.one
    rw [v1.bl]
    exact .inr ⟨_, rfl, k.here s rfl⟩
theorem f_list1 : Fun X P .list1 (fun xs H Q => ∃ p ys, xs = [.ref p] ∧ (SqL X.K H p ys ∨ SqT X.K H p ys) ∧ ∀ l, H l = none → Q (.ref l) (upd H l (.lst ys))) := by
  intro F H vs ds o Q s v h k
  replace h : p_list1 ds = some o := h
  unfold p_list1 at h
  split at h <;> (try contradiction)
  · cases h
    obtain ⟨u, rfl, v1⟩ := v.one
    obtain ⟨a, vs, rfl, e, r⟩ := v1.list s
    exact ⟨a, vs, rfl, .inl (SqL.of e), fun l hl => k.list s r hl⟩
  · cases h
    obtain ⟨u, rfl, v1⟩ := v.one
    obtain ⟨a, vs, rfl, e, r⟩ := v1.tup s
    exact ⟨a, vs, rfl, .inr (SqT.of e), fun l hl => k.list s r hl⟩
theorem f_tuple1 : Fun X P .tuple1 (fun xs H Q => ∃ p ys, xs = [.ref p] ∧ ((SqL X.K H p ys ∧ ∀ l, H l = none → Q (.ref l) (upd H l (.tup ys))) ∨ (SqT X.K H p ys ∧ Q (.ref p) H))) := by
  intro F H vs ds o Q s v h k
  replace h : p_tuple1 ds = some o := h
  unfold p_tuple1 at h
  split at h <;> (try contradiction)
  · cases h
    obtain ⟨u, rfl, v1⟩ := v.one
    obtain ⟨a, vs, rfl, e, r⟩ := v1.list s
    exact ⟨a, vs, rfl, .inl ⟨SqL.of e, fun l hl => k.tuple s r hl⟩⟩
  · cases h
    obtain ⟨u, rfl, v1⟩ := v.one
    obtain ⟨a, vs, rfl, e, r⟩ := v1.tup s
    exact ⟨a, vs, rfl, .inr ⟨SqT.of e, k.here s (v1.rep fun _ z => by cases z)⟩⟩
theorem f_max2 : Fun X P .max2 (fun xs H Q => ∃ i j, xs = [.int i, .int j] ∧ Q (.int (if j > i then j else i)) H) := by
  intro F H vs ds o Q s v h k
  replace h : p_max2 ds = some o := h
  unfold p_max2 at h
  split at h <;> (try contradiction)
  cases h
  obtain ⟨u, w, rfl, v1, v2⟩ := v.two
  rw [v1.int, v2.int]
  exact ⟨_, _, rfl, k.here s rfl⟩
theorem f_min2 : Fun X P .min2 (fun xs H Q => ∃ i j, xs = [.int i, .int j] ∧ Q (.int (if j < i then j else i)) H) := by
  intro F H vs ds o Q s v h k
  replace h : p_min2 ds = some o := h
  unfold p_min2 at h
  split at h <;> (try contradiction)
  cases h
  obtain ⟨u, w, rfl, v1, v2⟩ := v.two
  rw [v1.int, v2.int]
  exact ⟨_, _, rfl, k.here s rfl⟩
theorem f_abs1 : Fun X P .abs1 (fun xs H Q => ∃ i, xs = [.int i] ∧ Q (.int (if i < 0 then -i else i)) H) := by
  intro F H vs ds o Q s v h k
  replace h : p_abs1 ds = some o := h
  unfold p_abs1 at h
  split at h <;> (try contradiction)
  cases h
  obtain ⟨u, rfl, v1⟩ := v.one
  rw [v1.int]
  exact ⟨_, rfl, k.here s rfl⟩
theorem fold_max : ∀ (xs : List Int) (m : Int), xs.foldl (fun m y => if y > m then y else m) m ∈ m :: xs ∧ ∀ y ∈ m :: xs, y ≤ xs.foldl (fun m y => if y > m then y else m) m
  | [], m => ⟨by simp, by simp⟩
  | x :: xs, m => by
    obtain ⟨h1, h2⟩ := fold_max xs (if x > m then x else m)
    simp only [List.foldl_cons]
    generalize xs.foldl (fun m y => if y > m then y else m) (if x > m then x else m) = z at h1 h2 ⊢
    refine ⟨?_, fun y hy => ?_⟩
    · rcases List.mem_cons.mp h1 with e | e
      · rw [e]
        split <;> simp
      · exact List.mem_cons_of_mem _ (List.mem_cons_of_mem _ e)
    · have h0 := h2 _ List.mem_cons_self
      rcases List.mem_cons.mp hy with e | e
      · subst e; split at h0 <;> omega
      · rcases List.mem_cons.mp e with e | e
        · subst e; split at h0 <;> omega
        · exact h2 y (List.mem_cons_of_mem _ e)
theorem fold_min : ∀ (xs : List Int) (m : Int), xs.foldl (fun m y => if y < m then y else m) m ∈ m :: xs ∧ ∀ y ∈ m :: xs, xs.foldl (fun m y => if y < m then y else m) m ≤ y
  | [], m => ⟨by simp, by simp⟩
  | x :: xs, m => by
    obtain ⟨h1, h2⟩ := fold_min xs (if x < m then x else m)
    simp only [List.foldl_cons]
    generalize xs.foldl (fun m y => if y < m then y else m) (if x < m then x else m) = z at h1 h2 ⊢
    refine ⟨?_, fun y hy => ?_⟩
    · rcases List.mem_cons.mp h1 with e | e
      · rw [e]
        split <;> simp
      · exact List.mem_cons_of_mem _ (List.mem_cons_of_mem _ e)
    · have h0 := h2 _ List.mem_cons_self
      rcases List.mem_cons.mp hy with e | e
      · subst e; split at h0 <;> omega
      · rcases List.mem_cons.mp e with e | e
        · subst e; split at h0 <;> omega
        · exact h2 y (List.mem_cons_of_mem _ e)
theorem f_max1 : Fun X P .max1 (rMax X.K) := by
  intro F H vs ds o Q s v h k
  replace h : p_max1 ds = some o := h
  unfold p_max1 at h
  split at h <;> (try contradiction)
  rename_i xs
  obtain ⟨u, rfl, v1⟩ := v.one
  obtain ⟨a, vs, rfl, e, r⟩ := v1.list s
  cases e2 : dints xs with
  | none => rw [e2] at h; cases h
  | some ns =>
    rw [e2] at h
    cases ns with
    | nil => cases h
    | cons n ns =>
      cases h
      refine ⟨a, n :: ns, rfl, by rw [← r.ints e2]; exact SqL.of e, Nat.succ_pos _, fun m hm hle => ?_⟩
      obtain ⟨h1, h2⟩ := fold_max ns n
      have em : m = ns.foldl (fun m y => if y > m then y else m) n := Int.le_antisymm (h2 m hm) (hle _ h1)
      subst em
      exact k.here s rfl
theorem f_min1 : Fun X P .min1 (rMin X.K) := by
  intro F H vs ds o Q s v h k
  replace h : p_min1 ds = some o := h
  unfold p_min1 at h
  split at h <;> (try contradiction)
  rename_i xs
  obtain ⟨u, rfl, v1⟩ := v.one
  obtain ⟨a, vs, rfl, e, r⟩ := v1.list s
  cases e2 : dints xs with
  | none => rw [e2] at h; cases h
  | some ns =>
    rw [e2] at h
    cases ns with
    | nil => cases h
    | cons n ns =>
      cases h
      refine ⟨a, n :: ns, rfl, by rw [← r.ints e2]; exact SqL.of e, Nat.succ_pos _, fun m hm hle => ?_⟩
      obtain ⟨h1, h2⟩ := fold_min ns n
      have em : m = ns.foldl (fun m y => if y < m then y else m) n := Int.le_antisymm (hle _ h1) (h2 m hm)
      subst em
      exact k.here s rfl
def rSumT (K : PySem.W.Frag) : List V → Hp → VK → Prop := fun vs H Q => ∃ (a : Addr) (ns : List Int), vs = [V.ref a] ∧ SqT K H a (ns.map V.int) ∧ Q (.int ns.sum) H
theorem cr_sumT (hc : X.calm = true) : CallR X (.builtin "sum") (rSumT X.K) := by
  intro pins s σ H vs us Q I r h
  obtain ⟨a, ns, rfl, hs, q⟩ := h
  obtain ⟨its, rv, hl, _⟩ := I.tuple hs
  rw [Vals.ref1 r]
  have ia := rv.ints
  obtain ⟨xs, hx⟩ := ia.allInts.items
  have hn : PySem.numsOf its.toArray.toList = ns := by rw [show its.toArray.toList = its from rfl]; exact ia.numsOf
  have hl2 : s.heap.IsTuple a its.toArray := hl
  rw [hx] at hl2 hn
  rw [nums_intItems] at hn
  refine PySem.W.ktm_sumG (I.ok.hd hc) hl2 fun h' tk t' hk => ?_
  rw [preSum_eq, List.take_of_length_le (by simp), hn]
  exact ⟨.int _, H, I.kept hk, ⟨_, rfl⟩, q⟩
theorem f_sum1 : Fun X P .sum1 (fun xs H Q => rSum X.K xs H Q ∨ rSumT X.K xs H Q) := by
  intro F H vs ds o Q s v h k
  replace h : p_sum1 ds = some o := h
  unfold p_sum1 at h
  split at h <;> (try contradiction)
  · rename_i xs
    obtain ⟨u, rfl, v1⟩ := v.one
    obtain ⟨a, vs, rfl, e, r⟩ := v1.list s
    cases e2 : dints xs with
    | none => rw [e2] at h; cases h
    | some ns =>
      rw [e2] at h; cases h
      exact .inl ⟨a, ns, rfl, by rw [← r.ints e2]; exact SqL.of e, k.here s rfl⟩
  · rename_i xs
    obtain ⟨u, rfl, v1⟩ := v.one
    obtain ⟨a, vs, rfl, e, r⟩ := v1.tup s
    cases e2 : dints xs with
    | none => rw [e2] at h; cases h
    | some ns =>
      rw [e2] at h; cases h
      exact .inr ⟨a, ns, rfl, by rw [← r.ints e2]; exact SqT.of e, k.here s rfl⟩
end
end Ev
end
section
set_option linter.all false
set_option maxRecDepth 100000
set_option maxHeartbeats 4000000
/-! isinstance, sorted, sum of lists, repr, index, count. -/
namespace Ev
open PySem L2
section
variable {X : Cx} {P : Pm} {nm : Nm} {mg : Str → Option Value}
theorem kit_all : (["NoneType", "bool", "int", "str", "list", "tuple"].all fun t => ["int", "bool", "str", "list", "tuple", "dict"].all fun n => decide (kitB t n = tyB t n)) = true := by decide +kernel
theorem tyB_kit {K : W.Frag} {t n : String} {b : Bool} (ht : t ∈ ["NoneType", "bool", "int", "str", "list", "tuple"]) (h : tyB t n = some b) : W.kitOne K (.type t) (.type n) = some b := by
  apply kit_ty
  have h1 := List.all_eq_true.mp (List.all_eq_true.mp kit_all t ht) n (by
    unfold tyB at h
    split at h
    · rename_i c; simpa using c
    · cases h)
  rw [of_decide_eq_true h1]
  exact h
theorem tyN_mem {d : D} {t : String} (h : d.tyN = some t) : t ∈ ["NoneType", "bool", "int", "str", "list", "tuple"] := by
  cases d <;> cases h <;> simp
theorem View.tyX {K : W.Frag} {F H : Hp} (s : Sub F H) {d : D} {v : V} {t : String} (h : View mg nm F H d v) (e : d.tyN = some t) : TyX K H v (.type t) := by
  cases d <;> cases e
  · rw [h.non]; exact .base .non
  · rw [h.bl]; exact .base (.bl _)
  · rw [h.int]; exact .base (.int _)
  · rw [h.str]; exact .base (.str _)
  · obtain ⟨a, vs, rfl, e, _⟩ := h.list s
    exact .base (.lst e)
  · obtain ⟨a, vs, rfl, e, _⟩ := h.tup s
    exact .base (.tup e)
theorem isTys_kit {K : W.Frag} {F : Hp} {d : D} {t : String} (e : d.tyN = some t) : ∀ {ts : List D} {vs : List V} {b : Bool}, Reps mg nm F ts vs → isTys ts d = some b → ∃ us, Paired ClsV vs us ∧ W.kitAny K (.type t) us = some b
  | [], vs, b, r, h => by
    cases r; cases h
    exact ⟨[], .nil, rfl⟩
  | .ty n :: ts, vs, b, r, h => by
    obtain ⟨v, w, rfl, h1, h2⟩ := r
    have ev : v = .ty n := h1
    subst ev
    unfold isTys at h
    cases q : isTy n d with
    | none => rw [q] at h; cases h
    | some c =>
      rw [q] at h
      dsimp only at h
      have q2 : tyB t n = some c := by
        unfold isTy at q
        rw [e] at q; exact q
      have k1 := tyB_kit (K := K) (tyN_mem e) q2
      cases q3 : isTys ts d with
      | none => rw [q3] at h; cases h
      | some c2 =>
        rw [q3] at h; cases h
        obtain ⟨us, p, k⟩ := isTys_kit (b := c2) e h2 q3
        exact ⟨.type n :: us, .cons (.ty n) p, kitAny_cons k1 (fun z => by rw [z]; exact k) fun z => by rw [z]; rfl⟩
  | .non :: _, _, _, _, h => by cases h
  | .bl _ :: _, _, _, _, h => by cases h
  | .int _ :: _, _, _, _, h => by cases h
  | .str _ :: _, _, _, _, h => by cases h
  | .lst _ :: _, _, _, _, h => by cases h
  | .tup _ :: _, _, _, _, h => by cases h
  | .dct _ :: _, _, _, _, h => by cases h
  | .scr _ :: _, _, _, _, h => by cases h
  | .fn _ :: _, _, _, _, h => by cases h
  | .cls _ :: _, _, _, _, h => by cases h
  | .exc _ _ :: _, _, _, _, h => by cases h
/-- what an own exception class says, so that isinstance asks its instances rightly -/
structure EC (K : W.Frag) (C : Addr) : Prop where
  hcl : (W.clsIn K C).isSome = true
  hga : W.findIn K (.ref C) "__getattribute__" = some (some (.builtin "BaseException.__getattribute__"))
  hgt : W.findIn K (.ref C) "__getattr__" = some none
  hsub : W.subIn K (.ref C) (.type "BaseException") = some true
  ha : W.findIn K (.ref C) "__class__" = some (some (.builtin "object.__class__"))
  hn : W.specialIn K (.builtin "object.__class__") "__get__" = some (some (.builtin "getset_descriptor.__get__"))
  htk : W.takesIn K (.builtin "object.__class__") = some true
  hm : W.mroIn K C (.type "object") = some true
/-- a caught exception, as its object and its dict stand -/
theorem exc_inst {pins : List (Addr × Obj)} {σ : L2.St} {H : Hp} {s : Shared} {a dx C : Addr} {oe : Obj} {w : V} (I : Inv X pins σ H s) (e : H a = some (.ext fun h => h.get? a = some oe)) (z : ZE (.ref C) dx oe) (ed : H dx = some (.xd [(("value" : Str), w)])) :
    ∃ od, W.InstAt s.heap a oe C (some od) ∧ ∃ mA : Str → Option Value, W.lookIn "value" od = some (mA "value") ∧ ∀ f, RelO (List.lookup f [(("value" : Str), w)]) (mA f) := by
  obtain ⟨ha, _⟩ := (show ObjOk X.prog X.w H s.heap a (.ext fun h => h.get? a = some oe) from I.hok a _ e)
  obtain ⟨mA, hns, hr⟩ := (show ObjOk X.prog X.w H s.heap dx (.xd [(("value" : Str), w)]) from I.hok dx _ ed)
  obtain ⟨od, ho, hl⟩ := lookIn_ns hns
  obtain ⟨z1, z2, vs, z3⟩ := z
  exact ⟨od, ⟨ha, z1, by unfold W.notCls; rw [z3], by rw [z2]; exact ho⟩, mA, hl _, hr⟩
def rIsX (K : W.Frag) : List V → Hp → VK → Prop := fun xs H Q => ∃ (a dx C C' : Addr) (oe : Obj) (w : V) (b : Bool), xs = [.ref a, .ref C'] ∧ H a = some (.ext fun h => h.get? a = some oe) ∧ ZE (.ref C) dx oe ∧ H dx = some (.xd [(("value" : Str), w)]) ∧ EC K C ∧ W.kitOne K (.ref C) (.ref C') = some b ∧ Q (.bl b) H
theorem call_isX : CallR X (.builtin "isinstance") (rIsX X.K) := by
  intro pins s σ H xs us Q I r h
  obtain ⟨a, dx, C, C', oe, w, b, rfl, e, z, ed, c, k, q⟩ := h
  obtain ⟨u1, u2, rfl, r1, r2⟩ := vals2 r
  cases (show u1 = Value.ref a from r1)
  cases (show u2 = Value.ref C' from r2)
  obtain ⟨od, J, _⟩ := exc_inst I e z ed
  exact W.kia_one (W.kitx_exc c.hcl c.hga c.hgt c.hsub c.ha c.hn c.htk c.hm) I.kIn J k (fun z => nomatch z) fun tk => ⟨.bl b, H, I.tok tk, rfl, q⟩
/-- the classes of the table tell one another apart -/
def Apart (K : W.Frag) (mg : Str → Option Value) (nm : Nm) : Prop := ∀ c k C C', mg (nm.cls c) = some (.ref C) → mg (nm.cls k) = some (.ref C') → EC K C ∧ W.kitOne K (.ref C) (.ref C') = some (c == k)
theorem f_isi (ap : Apart X.K X.mg P.nm) : Fun X P .isi (fun xs H Q => rIsi X.K xs H Q ∨ rIsiT X.K xs H Q ∨ rIsX X.K xs H Q) := by
  intro F H vs ds o Q s v h k
  replace h : p_isi ds = some o := h
  unfold p_isi at h
  split at h <;> (try contradiction)
  · rename_i d n
    cases q : isTy n d with
    | none => rw [q] at h; cases h
    | some b =>
      rw [q] at h; cases h
      obtain ⟨u, w, rfl, v1, v2⟩ := v.two
      have ew : w = .ty n := v2.rep fun _ z => by cases z
      unfold isTy at q
      cases e : d.tyN with
      | none => rw [e] at q; cases q
      | some t =>
        rw [e] at q
        rw [ew]
        exact .inl ⟨_, _, _, _, b, rfl, .ty n, v1.tyX s e, tyB_kit (tyN_mem e) q, k.here s rfl⟩
  · rename_i d ts
    cases e : d.tyN with
    | none => rw [e] at h; cases h
    | some t =>
      cases q : isTys ts d with
      | none => rw [e, q] at h; cases h
      | some b =>
        rw [e, q] at h; cases h
        obtain ⟨u, w, rfl, v1, v2⟩ := v.two
        obtain ⟨a, vs, rfl, e2, r⟩ := v2.tup s
        obtain ⟨us, p, k2⟩ := isTys_kit (K := X.K) e r q
        exact .inr (.inl ⟨_, a, vs, _, us, b, rfl, e2, p, v1.tyX s e, k2, k.here s rfl⟩)
  · rename_i c x k'
    cases h
    obtain ⟨u, w, rfl, v1, v2⟩ := v.two
    obtain ⟨a, oe, dx, y, C, rfl, e2, e3, e4, e5, _⟩ := v1.rep fun _ z => by cases z
    obtain ⟨C', rfl, e6⟩ := v2.rep fun _ z => by cases z
    obtain ⟨p1, p2⟩ := ap _ _ _ _ e3 e6
    exact .inr (.inr ⟨a, dx, C, C', oe, y, _, rfl, s _ _ e2, e4, s _ _ e5, p1, p2, k.here s rfl⟩)
/-! ### sorted -/
/-- v stands for d -/
def Sd (mg : Str → Option Value) (nm : Nm) (F : Hp) (u : Value) (d : D) : Prop := ∃ v, RelV v u ∧ Rep mg nm F d v
theorem sds_of {F : Hp} : ∀ {ds : List D} {vs : List V} {us : List Value}, Reps mg nm F ds vs → Vals vs us → W.EachIs (Sd mg nm F) us ds
  | [], vs, us, r, q => by
    cases r; cases q; exact .nil
  | d :: ds, vs, us, r, q => by
    obtain ⟨v, w, rfl, h1, h2⟩ := r
    cases q with
    | cons r1 r2 => exact .cons ⟨v, r1, h1⟩ (sds_of h2 r2)
theorem of_sds {F : Hp} : ∀ {us : List Value} {ds : List D}, W.EachIs (Sd mg nm F) us ds → ∃ vs, Reps mg nm F ds vs ∧ Vals vs us
  | _, _, .nil => ⟨[], rfl, .nil⟩
  | _, _, .cons ⟨v, r1, h1⟩ t => by
    obtain ⟨vs, h2, r2⟩ := of_sds t
    exact ⟨v :: vs, ⟨v, vs, rfl, h1, h2⟩, .cons r1 r2⟩
theorem each_reads {F H : Hp} {pins : List (Addr × Obj)} {σ : L2.St} {s : Shared} (I : L2.Inv X pins σ H s) (sub : Sub F H) : ∀ {ds : List D} {vs : List V} {us : List Value}, Reps mg nm F ds vs → Vals vs us → (ds.all fun d => D.okD d 60) = true →
    W.EachIs (fun v b => ∃ as, Reads s.heap v (D.py b) as) us ds
  | [], vs, us, r, q, _ => by cases r; cases q; exact .nil
  | d :: ds, vs, us, r, q, k => by
    obtain ⟨v, w, rfl, h1, h2⟩ := r
    simp only [List.all_cons, Bool.and_eq_true] at k
    cases q with
    | cons r1 r2 => exact .cons (Dp.reads I d.py v _ (h1.dp sub d v 60 k.1) r1) (each_reads I sub h2 r2 k.2)
def rSrt (mg : Str → Option Value) (nm : Nm) (K : PySem.W.Frag) : List V → Hp → VK → Prop := fun vs H Q => ∃ (a : Addr) (xs : List V) (F : Hp) (ds : List D), vs = [V.ref a] ∧ SqL K H a xs ∧ Sub F H ∧ Reps mg nm F ds xs ∧ sortOk ds = true ∧
  ∀ ws p, Reps mg nm F (sortD ds) ws → H p = none → Q (.ref p) (upd H p (.lst ws))
theorem cr_srt (hu : X.A.units + 64 < cLine) : CallR X (.builtin "sorted") (rSrt mg nm X.K) := by
  intro pins s σ H vs us Q I r h
  obtain ⟨a, xs, F, ds, rfl, hs, sub, rp, ok, q⟩ := h
  obtain ⟨its, rv, hl, hz⟩ := I.list hs
  rw [Vals.ref1 r]
  unfold sortOk at ok
  simp only [Bool.and_eq_true] at ok
  obtain ⟨⟨o1, o2⟩, o3⟩ := ok
  have lens : ds.length = xs.length := rp.length.symm
  refine PySem.W.sorted_data (enc := D.py) (bs := ds) (R := Sd mg nm F) hl.isList (sds_of rp rv) (each_reads I sub rp rv o1) ?_ ?_ (by rw [lens]; exact hz) (fun d hd => ?_) fun out hlen eo => ?_
  · intro d hd d' hd'
    obtain ⟨b, hb, rfl⟩ := List.mem_map.mp hd
    obtain ⟨b', hb', rfl⟩ := List.mem_map.mp hd'
    exact List.all_eq_true.mp (List.all_eq_true.mp o2 b hb) b' hb'
  · simp only [Bool.or_eq_true] at o3
    rcases o3 with o3 | o3
    · refine .inl fun d hd => ?_
      obtain ⟨b, hb, rfl⟩ := List.mem_map.mp hd
      have z := List.all_eq_true.mp o3 b hb
      cases b <;> (try cases z)
      rename_i ys
      cases ys with
      | nil => cases z
      | cons y ys => exact ⟨_, _, rfl⟩
    · refine .inr fun d hd => ?_
      obtain ⟨b, hb, rfl⟩ := List.mem_map.mp hd
      have z := List.all_eq_true.mp o3 b hb
      cases b <;> (try cases z) <;> exact ⟨fun w => (by cases w), fun _ w => (by cases w)⟩
  · have z := depth_of d 60 (List.all_eq_true.mp o1 d hd)
    omega
  · obtain ⟨ws, h1, h2⟩ := of_sds eo
    obtain ⟨ep, he'⟩ := PyProof.Rows.sortedAll_at s.heap its out.toArray
    have hlen2 : ws.length ≤ sizeLine := by rw [h2.length, hlen, lens]; exact hz
    exact ⟨.ref _, upd H (s.heap.objs.size + 1) (.lst ws), I.laid (t' := s.toks) (fun _ _ => PyProof.Rows.sortedAll_old) (Nat.le_succ _) ⟨hlen2, out, ep, h2, he'⟩, rfl, q _ _ h1 (I.hok.fresh (Nat.le_succ _))⟩
theorem f_sorted : Fun X P .sorted1 (rSrt X.mg P.nm X.K) := by
  intro F H vs ds o Q s v h k
  replace h : p_sorted1 ds = some o := h
  unfold p_sorted1 at h
  split at h <;> (try contradiction)
  rename_i xs
  split at h
  · rename_i c
    cases h
    obtain ⟨u, rfl, v1⟩ := v.one
    obtain ⟨a, vs, rfl, e, r⟩ := v1.list s
    exact ⟨a, vs, F, xs, rfl, SqL.of e, s, r, c, fun ws p h1 hp => k.list s h1 hp⟩
  · cases h
/-! ### repr -/
def rRpr (K : PySem.W.Frag) : List V → Hp → VK → Prop := fun vs H Q => ∃ (v : V) (d : PyData), vs = [v] ∧ Dp K H v d ∧ d.hasDict = false ∧ d.showable = true ∧ d.depth ≤ 60 ∧ d.shown.length ≤ sizeLine ∧ Q (.str d.shown) H
theorem cr_rpr (hg : X.A.guards = some []) (hu : X.A.units + 64 < cLine) : CallR X (.builtin "repr") (rRpr X.K) := by
  intro pins s σ H vs us Q I r h
  obtain ⟨v, d, rfl, hd, nd, sh, dp, hz, q⟩ := h
  obtain ⟨u, rfl, ru⟩ := vals1 r
  obtain ⟨as, rd⟩ := Dp.reads I d v u hd ru
  have fin : ∀ h' t tk, (∀ b o, s.heap.get? b = some o → h'.get? b = some o) → EP X pins σ Q (.str d.shown t) { s with heap := h', toks := tk } := fun h' t tk hk => ⟨.str d.shown, H, I.kept hk, ⟨_, rfl⟩, q⟩
  cases rd with
  | none => exact PySem.P.repr_of_none (fin s.heap _ _ fun _ _ e => e)
  | bool b => exact PySem.P.repr_of_bool (fin s.heap _ _ fun _ _ e => e)
  | int i t => exact PySem.P.repr_of_int (of_decide_eq_true sh) (fin s.heap _ _ fun _ _ e => e)
  | str x t => exact PySem.P.repr_of_str (fin s.heap _ _ fun _ _ e => e) hz
  | list h1 h2 h3 h4 => exact repr_of_reads' (.list h1 h2 h3 h4) sh (fun z => by rw [nd] at z; cases z) hg (by omega) (fun _ _ e => e) (fun h' t tk hk => fin h' t tk hk) hz
  | tuple h1 h2 h3 h4 => exact repr_of_reads' (.tuple h1 h2 h3 h4) sh (fun z => by rw [nd] at z; cases z) hg (by omega) (fun _ _ e => e) (fun h' t tk hk => fin h' t tk hk) hz
  | dict => exact absurd nd (by simp [PyData.hasDict])
theorem f_repr : Fun X P .repr1 (rRpr X.K) := by
  intro F H vs ds o Q s v h k
  replace h : p_repr1 ds = some o := h
  unfold p_repr1 at h
  split at h <;> (try contradiction)
  rename_i d
  split at h
  · rename_i c
    cases h
    simp only [Bool.and_eq_true, decide_eq_true_eq] at c
    obtain ⟨u, rfl, v1⟩ := v.one
    exact ⟨u, d.py, rfl, v1.dp s c.1.1, PyData.hasDict_of_canLay _ (canLay_of d 60 c.1.1), c.1.2, depth_of d 60 c.1.1, by rw [sizeLine_eq]; exact c.2, k.here s rfl⟩
  · cases h
end
end Ev
end
section
set_option linter.all false
set_option maxRecDepth 100000
set_option maxHeartbeats 4000000
/-! Names, displays, tests. -/
namespace Ev
open PySem L2
section
variable {X : Cx} {P : Pm} {nm : Nm} {mg : Str → Option Value}

theorem hn_of {x : Ex} (hx : ∀ i, x ≠ .var i) : ∀ σ H Q, tH mg P x σ H Q → tE mg P x σ H Q := by
  rintro σ H Q ⟨F, Z, ε, R, h⟩
  refine ⟨F, Z, ε, R, ?_⟩
  have key : evH P.cl P.sg x ε = (evE P.cl P.sg x ε).bind fun o ε1 => .ok (.val o) ε1 := by
    cases x with
    | var i => exact absurd rfl (hx i)
    | cst c => rw [evH, evE]; rfl
    | _ => rw [evH] <;> (intro i z; cases z)
  rw [key] at h
  exact (After.bind h).imp (fun o ε1 k F' H' Z' v S s r ow t => k F' H' Z' v S s r ow t) fun _ _ _ z => z
theorem pe_hn {e : Expr} {x : Ex} (hx : ∀ i, x ≠ .var i) (h : PE X e (tE X.mg P x)) : PE X e (tH X.mg P x) := PE.imp h (hn_of hx)
theorem take_tvar {i : Nat} : ∀ σ H Q, tE mg P (.var i) σ H Q → tVar i σ H Q := by
  rintro σ H Q ⟨F, Z, ε, R, h⟩
  unfold evE take at h
  cases e : ε i with
  | none => rw [e] at h; exact h.elim
  | some o =>
    rw [e] at h
    obtain ⟨v, hv, ow⟩ := R.slot i o e
    have own : After (.ok (.im o.er) (up ε i (.im o.er))) (kO mg P σ F H Z Q) (xW mg P σ F H Z) → Q v H := fun k => by
      have hF : ∀ b, fz F H (Z i) b ≠ none → F b ≠ none ∨ (b ∈ Z i ∧ b ∉ ([] : List Addr)) := fun b hb => by
        by_cases q : b ∈ Z i
        · exact .inr ⟨q, by simp⟩
        · rw [fz_out q] at hb; exact .inl hb
      have rp : Rep mg P.nm (fz F H (Z i)) o.er v := Own.rep o v (Z i) ow (fz_sub R.sub) fun b hb => fz_in hb
      exact k _ H _ v [] (Stp.slotTo (fz_sub R.sub) hF (by simp)) (R.slotTo hv (fz_sub R.sub) (fz_sub2 R.sub) hF ⟨rp, rfl⟩ (by simp) (by simp)) ⟨rp, rfl⟩ Tmp.nil
    refine ⟨v, hv, ?_⟩
    cases o with
    | im d => exact h F H Z v [] Stp.refl R ⟨ow.1, rfl⟩ Tmp.nil
    | ls ds => exact own h
    | dc kvs => exact own h
    | lst os => exact own h
    | tup os => exact own h
theorem slot_tvar {i : Nat} : ∀ σ H Q, tH mg P (.var i) σ H Q → tVar i σ H Q := by
  rintro σ H Q ⟨F, Z, ε, R, h⟩
  unfold evH at h
  cases e : ε i with
  | none => rw [e] at h; exact h.elim
  | some o =>
    rw [e] at h
    obtain ⟨v, hv, ow⟩ := R.slot i o e
    exact ⟨v, hv, h F H Z v [] Stp.refl R ⟨hv, rfl⟩ Tmp.nil⟩
/-- a constant's reading -/
theorem cst_tC {c : Cst} {v : V} (hv : ∀ F : Hp, Rep mg P.nm F c.d v) : ∀ σ H Q, tE mg P (.cst c) σ H Q → tC v σ H Q := by
  rintro σ H Q ⟨F, Z, ε, R, h⟩
  unfold evE at h
  exact h F H Z v [] Stp.refl R ⟨hv F, rfl⟩ Tmp.nil
theorem gl_tC {g : Gl} {v : V} (hv : ∀ F : Hp, Rep mg P.nm F g.d v) : ∀ σ H Q, tE mg P (.gl g) σ H Q → tC v σ H Q := by
  rintro σ H Q ⟨F, Z, ε, R, h⟩
  unfold evE at h
  exact h F H Z v [] Stp.refl R ⟨hv F, rfl⟩ Tmp.nil

/-! ### displays -/
def kEs (mg : Str → Option Value) (P : Pm) (n : Nat) (σ : L2.St) (F H : Hp) (Z : Nat → List Addr) (Q : List O → Env → Hp → Hp → (Nat → List Addr) → List V → List Addr → Prop) : List O → Env → Prop := fun os ε' => os.length = n → ∀ F' H' Z' vs S, Stp F H Z F' H' Z' → RelS mg P.nm F' H' σ ε' Z' → Owns mg P.nm F' H' os vs S → Tmp H Z F' Z' S → Q os ε' F' H' Z' vs S
def tEs (mg : Str → Option Value) (P : Pm) (es : List Ex) : TA := fun σ H Q => ∃ F Z ε, RelS mg P.nm F H σ ε Z ∧ After (evEs P.cl P.sg es ε) (kEs mg P es.length σ F H Z (fun os ε' F' H' Z' vs S => Q vs H')) (xW mg P σ F H Z)
theorem es_cons {σ : L2.St} {F H : Hp} {Z : Nat → List Addr} {ε : Env} {e : Ex} {es : List Ex} {Q : List O → Env → Hp → Hp → (Nat → List Addr) → List V → List Addr → Prop}
    (h : After (evEs P.cl P.sg (e :: es) ε) (kEs mg P (e :: es).length σ F H Z Q) (xW mg P σ F H Z)) :
    After (evE P.cl P.sg e ε) (fun o ε1 => ∀ F1 H1 Z1 v S1, Stp F H Z F1 H1 Z1 → RelS mg P.nm F1 H1 σ ε1 Z1 → Own mg P.nm F1 H1 o v S1 → Tmp H Z F1 Z1 S1 →
      After (evEs P.cl P.sg es ε1) (kEs mg P es.length σ F1 H1 Z1 (fun os ε' F' H' Z' vs S => Q (o :: os) ε' F' H' Z' (v :: vs) (S1 ++ S))) (xW mg P σ F1 H1 Z1)) (xW mg P σ F H Z) := by
  unfold evEs at h
  refine (After.bind h).imp (fun o ε1 k F1 H1 Z1 v S1 s1 r1 o1 t1 => ?_) fun _ _ _ z => z
  refine (After.bind k).imp (fun os ε2 k2 hl F' H' Z' vs S s2 r2 o2 t2 => ?_) fun _ _ _ z => xW.step s1 z
  have k2' : kEs mg P (e :: es).length σ F H Z Q (o :: os) ε2 := k2
  have ts := t1.step s2 (Own.dom o v S1 o1)
  exact k2' (by simp [hl]) F' H' Z' (v :: vs) (S1 ++ S) (s1.trans s2) r2 ⟨v, vs, S1, S, rfl, Own.mono s2.sub o v S1 o1 ts.2, o2, rfl⟩ (Tmp.append s1 t1 s2 (Own.dom o v S1 o1) t2)
theorem tEs_nil : ∀ σ H Q, tEs mg P [] σ H Q → tNil σ H Q := by
  rintro σ H Q ⟨F, Z, ε, R, h⟩
  unfold evEs at h
  exact h rfl F H Z [] [] Stp.refl R ⟨rfl, rfl⟩ Tmp.nil
theorem tEs_cons {e : Ex} {es : List Ex} : ∀ σ H Q, tEs mg P (e :: es) σ H Q → tCons (tE mg P e) (tEs mg P es) σ H Q := by
  rintro σ H Q ⟨F, Z, ε, R, h⟩
  refine ⟨F, Z, ε, R, (es_cons h).imp (fun o ε1 k F1 H1 Z1 v S1 s1 r1 o1 t1 => ?_) fun _ _ _ z => z⟩
  exact ⟨F1, Z1, ε1, r1, k F1 H1 Z1 v S1 s1 r1 o1 t1⟩
/-- a new object beside values at hand -/
theorem laid {σ : L2.St} {F H F1 H1 : Hp} {Z Z1 : Nat → List Addr} {ε : Env} {S : List Addr} {p : Addr} {u : HO} (s : Stp F H Z F1 H1 Z1) (R : RelS mg P.nm F1 H1 σ ε Z1) (t : Tmp H Z F1 Z1 S) (d : ∀ a ∈ S, ∃ u, H1 a = some u) (hp : H1 p = none) :
    Stp F H Z F1 (upd H1 p u) Z1 ∧ RelS mg P.nm F1 (upd H1 p u) σ ε Z1 ∧ Tmp H Z F1 Z1 (p :: S) ∧ F1 p = none := by
  have hF : F1 p = none := by
    cases q : F1 p with
    | none => rfl
    | some w => rw [R.sub _ _ q] at hp; cases hp
  have g : Grw F1 H1 F1 (upd H1 p u) := ⟨Sub.refl, R.sub.laid2 hF, Sub.laid hp, fun _ h => .inl h⟩
  refine ⟨s.grow g, R.grow g, ⟨List.nodup_cons.mpr ⟨fun z => ?_, t.nd⟩, fun a ha => ?_, fun a ha i hi => ?_, fun a ha => ?_⟩, hF⟩
  · obtain ⟨w, e⟩ := d p z
    rw [hp] at e; cases e
  · rcases List.mem_cons.mp ha with rfl | ha
    · exact hF
    · exact t.fr a ha
  · rcases List.mem_cons.mp ha with rfl | ha
    · obtain ⟨w, e⟩ := R.dom hi
      rw [hp] at e; cases e
    · exact t.dj a ha i hi
  · rcases List.mem_cons.mp ha with rfl | ha
    · exact .inl (s.dom _ hp)
    · exact t.new a ha
theorem mk_tup {es : List Ex} (hz : es.length ≤ 16777216) : ∀ σ H Q, tE mg P (.tup es) σ H Q → tTup (tEs mg P es) σ H Q := by
  rintro σ H Q ⟨F, Z, ε, R, h⟩
  unfold evE at h
  refine ⟨F, Z, ε, R, (After.bind h).imp (fun os ε1 k hl F1 H1 Z1 vs S s1 r1 o1 t1 => ⟨?_, fun p hp => ?_⟩) fun _ _ _ z => z⟩
  · rw [Owns.length o1, hl, sizeLine_eq]; exact hz
  · have k' : kO mg P σ F H Z Q (mk (fun ds => .im (.tup ds)) .tup os) ε1 := k
    unfold mk at k'
    have dm := Owns.dom os vs S o1
    cases e : O.ims os with
    | some ds =>
      rw [e] at k'
      obtain ⟨rp, eS⟩ := Owns.ims o1 e
      have ot := out_of s1 r1 k'
      exact ot.tuple r1.sub rp hp
    | none =>
      rw [e] at k'
      obtain ⟨a1, a2, a3, a4⟩ := laid (u := .tup vs) s1 r1 t1 dm hp
      exact k' F1 _ Z1 (.ref p) (p :: S) a1 a2 ⟨p, vs, S, rfl, upd_same, Owns.mono Sub.refl os vs S o1 fun b hb w q => by
        rw [upd_ne (ne_of_none q hp)]; exact q, rfl⟩ a3
theorem mk_lst {es : List Ex} (hz : es.length ≤ 16777216) : ∀ σ H Q, tE mg P (.lst es) σ H Q → tLst (tEs mg P es) σ H Q := by
  rintro σ H Q ⟨F, Z, ε, R, h⟩
  unfold evE at h
  refine ⟨F, Z, ε, R, (After.bind h).imp (fun os ε1 k hl F1 H1 Z1 vs S s1 r1 o1 t1 => ⟨?_, fun p hp => ?_⟩) fun _ _ _ z => z⟩
  · rw [Owns.length o1, hl, sizeLine_eq]; exact hz
  · have k' : kO mg P σ F H Z Q (mk .ls .lst os) ε1 := k
    unfold mk at k'
    have dm := Owns.dom os vs S o1
    cases e : O.ims os with
    | some ds =>
      rw [e] at k'
      obtain ⟨rp, eS⟩ := Owns.ims o1 e
      have ot := out_of s1 r1 k'
      exact ot.list r1.sub rp hp
    | none =>
      rw [e] at k'
      obtain ⟨a1, a2, a3, a4⟩ := laid (u := .lst vs) s1 r1 t1 dm hp
      exact k' F1 _ Z1 (.ref p) (p :: S) a1 a2 ⟨p, vs, S, rfl, upd_same, Owns.mono Sub.refl os vs S o1 fun b hb w q => by
        rw [upd_ne (ne_of_none q hp)]; exact q, rfl⟩ a3

/-! ### not, and, or, if else -/
theorem own_bl {F H : Hp} {b : Bool} {v : V} {S : List Addr} (h : Own mg nm F H (.im (.bl b)) v S) : v = .bl b ∧ S = [] := h
theorem not_tNotV {a : Ex} : ∀ σ H Q, tE mg P (.not a) σ H Q → tNotV (tE mg P a) σ H Q := by
  rintro σ H Q ⟨F, Z, ε, R, h⟩
  unfold evE at h
  refine ⟨F, Z, ε, R, (After.bind h).imp (fun o ε1 k F1 H1 Z1 v S s1 r1 o1 t1 => ?_) fun _ _ _ z => z⟩
  split at k
  · rename_i b
    obtain ⟨ev, rfl⟩ := own_bl o1
    exact ⟨b, ev, k F1 H1 Z1 _ [] s1 r1 ⟨rfl, rfl⟩ t1⟩
  · exact k.elim
theorem and1 {a : Ex} : ∀ σ H Q, tE mg P (.and [a]) σ H Q → tE mg P a σ H Q := by
  rintro σ H Q ⟨F, Z, ε, R, h⟩
  unfold evE evAnd at h
  exact ⟨F, Z, ε, R, h⟩
theorem or1 {a : Ex} : ∀ σ H Q, tE mg P (.or [a]) σ H Q → tE mg P a σ H Q := by
  rintro σ H Q ⟨F, Z, ε, R, h⟩
  unfold evE evOr at h
  exact ⟨F, Z, ε, R, h⟩
theorem kO_trans {σ : L2.St} {F H F1 H1 : Hp} {Z Z1 : Nat → List Addr} {Q : VK} {o : O} {ε : Env} (s : Stp F H Z F1 H1 Z1) (k : kO mg P σ F H Z Q o ε) : kO mg P σ F1 H1 Z1 Q o ε :=
  fun F' H' Z' v S s' r ow t => k F' H' Z' v S (s.trans s') r ow (t.pre s)
theorem and2 {a b : Ex} {r : List Ex} : ∀ σ H Q, tE mg P (.and (a :: b :: r)) σ H Q → tAndV (tE mg P a) (tE mg P (.and (b :: r))) σ H Q := by
  rintro σ H Q ⟨F, Z, ε, R, h⟩
  unfold evE evAnd at h
  refine ⟨F, Z, ε, R, (After.bind h).imp (fun o ε1 k F1 H1 Z1 v S s1 r1 o1 t1 => ?_) fun _ _ _ z => z⟩
  split at k
  · obtain ⟨ev, rfl⟩ := own_bl o1
    refine ⟨true, ev, ?_⟩
    rw [if_pos rfl]
    refine ⟨F1, Z1, ε1, r1, ?_⟩
    unfold evE
    exact After.imp k (fun o' ε' k' => kO_trans s1 k') fun _ _ _ z => xW.step s1 z
  · obtain ⟨ev, rfl⟩ := own_bl o1
    refine ⟨false, ev, ?_⟩
    rw [if_neg (by simp)]
    exact k F1 H1 Z1 _ [] s1 r1 ⟨rfl, rfl⟩ t1
  · exact k.elim
theorem or2 {a b : Ex} {r : List Ex} : ∀ σ H Q, tE mg P (.or (a :: b :: r)) σ H Q → tOrV (tE mg P a) (tE mg P (.or (b :: r))) σ H Q := by
  rintro σ H Q ⟨F, Z, ε, R, h⟩
  unfold evE evOr at h
  refine ⟨F, Z, ε, R, (After.bind h).imp (fun o ε1 k F1 H1 Z1 v S s1 r1 o1 t1 => ?_) fun _ _ _ z => z⟩
  split at k
  · obtain ⟨ev, rfl⟩ := own_bl o1
    refine ⟨false, ev, ?_⟩
    rw [if_neg (by simp)]
    refine ⟨F1, Z1, ε1, r1, ?_⟩
    unfold evE
    exact After.imp k (fun o' ε' k' => kO_trans s1 k') fun _ _ _ z => xW.step s1 z
  · obtain ⟨ev, rfl⟩ := own_bl o1
    refine ⟨true, ev, ?_⟩
    rw [if_pos rfl]
    exact k F1 H1 Z1 _ [] s1 r1 ⟨rfl, rfl⟩ t1
  · exact k.elim
theorem ite_tIf {c a b : Ex} : ∀ σ H Q, tE mg P (.ite c a b) σ H Q → tIf (tT mg P c) (tE mg P a) (tE mg P b) σ H Q := by
  rintro σ H Q ⟨F, Z, ε, R, h⟩
  unfold evE at h
  refine ⟨F, Z, ε, R, (After.bind h).imp (fun k ε1 q F1 H1 Z1 s1 r1 => ?_) fun _ _ _ z => z⟩
  split at q
  · rw [if_pos rfl]
    exact ⟨F1, Z1, ε1, r1, After.imp q (fun _ _ k' => kO_trans s1 k') fun _ _ _ z => xW.step s1 z⟩
  · rw [if_neg (by simp)]
    exact ⟨F1, Z1, ε1, r1, After.imp q (fun _ _ k' => kO_trans s1 k') fun _ _ _ z => xW.step s1 z⟩

/-! ### tests -/
theorem kT_trans {σ : L2.St} {F H F1 H1 : Hp} {Z Z1 : Nat → List Addr} {Q : Bool → Hp → Prop} {b : Bool} {ε : Env} (s : Stp F H Z F1 H1 Z1) (k : kT mg P σ F H Z Q b ε) : kT mg P σ F1 H1 Z1 Q b ε :=
  fun F' H' Z' s' r => k F' H' Z' (s.trans s') r
theorem tt_not {a : Ex} : ∀ σ H Q, tT mg P (.not a) σ H Q → tNot (tT mg P a) σ H Q := by
  rintro σ H Q ⟨F, Z, ε, R, h⟩
  unfold evT at h
  exact ⟨F, Z, ε, R, (After.bind h).imp (fun b ε1 k F1 H1 Z1 s1 r1 => k F1 H1 Z1 s1 r1) fun _ _ _ z => z⟩
def tTs (mg : Str → Option Value) (P : Pm) (es : List Ex) : TT := fun σ H Q => ∃ F Z ε, RelS mg P.nm F H σ ε Z ∧ After (evTs P.cl P.sg es ε) (kT mg P σ F H Z Q) (xW mg P σ F H Z)
def tTo (mg : Str → Option Value) (P : Pm) (es : List Ex) : TT := fun σ H Q => ∃ F Z ε, RelS mg P.nm F H σ ε Z ∧ After (evTo P.cl P.sg es ε) (kT mg P σ F H Z Q) (xW mg P σ F H Z)
theorem tt_and {es : List Ex} : ∀ σ H Q, tT mg P (.and es) σ H Q → tTs mg P es σ H Q := fun σ H Q ⟨F, Z, ε, R, h⟩ => ⟨F, Z, ε, R, by unfold evT at h; exact h⟩
theorem tt_or {es : List Ex} : ∀ σ H Q, tT mg P (.or es) σ H Q → tTo mg P es σ H Q := fun σ H Q ⟨F, Z, ε, R, h⟩ => ⟨F, Z, ε, R, by unfold evT at h; exact h⟩
theorem ts_nil : ∀ σ H Q, tTs mg P [] σ H Q → Q true H := by
  rintro σ H Q ⟨F, Z, ε, R, h⟩
  unfold evTs at h
  exact h F H Z Stp.refl R
theorem to_nil : ∀ σ H Q, tTo mg P [] σ H Q → Q false H := by
  rintro σ H Q ⟨F, Z, ε, R, h⟩
  unfold evTo at h
  exact h F H Z Stp.refl R
theorem ts_cons {e : Ex} {es : List Ex} : ∀ σ H Q, tTs mg P (e :: es) σ H Q → tAnd (tT mg P e) (tTs mg P es) σ H Q := by
  rintro σ H Q ⟨F, Z, ε, R, h⟩
  unfold evTs at h
  refine ⟨F, Z, ε, R, (After.bind h).imp (fun k ε1 q F1 H1 Z1 s1 r1 => ?_) fun _ _ _ z => z⟩
  split at q
  · rw [if_pos rfl]
    exact ⟨F1, Z1, ε1, r1, After.imp q (fun _ _ k' => kT_trans s1 k') fun _ _ _ z => xW.step s1 z⟩
  · rw [if_neg (by simp)]
    exact q F1 H1 Z1 s1 r1
theorem to_cons {e : Ex} {es : List Ex} : ∀ σ H Q, tTo mg P (e :: es) σ H Q → tOr (tT mg P e) (tTo mg P es) σ H Q := by
  rintro σ H Q ⟨F, Z, ε, R, h⟩
  unfold evTo at h
  refine ⟨F, Z, ε, R, (After.bind h).imp (fun k ε1 q F1 H1 Z1 s1 r1 => ?_) fun _ _ _ z => z⟩
  split at q
  · rw [if_pos rfl]
    exact q F1 H1 Z1 s1 r1
  · rw [if_neg (by simp)]
    exact ⟨F1, Z1, ε1, r1, After.imp q (fun _ _ k' => kT_trans s1 k') fun _ _ _ z => xW.step s1 z⟩
/-- any other expression as a test, by its value -/
theorem tt_val {e : Ex} (hk : ∀ ε, evT P.cl P.sg e ε = (evE P.cl P.sg e ε).bind fun o ε1 => match o with | .im (.bl b) => .ok b ε1 | _ => .bad) : ∀ σ H Q, tT mg P e σ H Q → tB (tE mg P e) σ H Q := by
  rintro σ H Q ⟨F, Z, ε, R, h⟩
  rw [hk] at h
  refine ⟨F, Z, ε, R, (After.bind h).imp (fun o ε1 k F1 H1 Z1 v S s1 r1 o1 t1 => ?_) fun _ _ _ z => z⟩
  split at k
  · rename_i b
    obtain ⟨ev, rfl⟩ := own_bl o1
    exact ⟨b, ev, k F1 H1 Z1 s1 r1⟩
  · exact k.elim
end
end Ev
end
section
set_option linter.all false
set_option maxRecDepth 100000
set_option maxHeartbeats 4000000
/-! Calls of one's own defs. -/
namespace Ev
open PySem L2
section
variable {X : Cx} {P : Pm} {nm : Nm} {mg : Str → Option Value}

structure CallEnd (F H : Hp) (S : List Addr) (F' H' : Hp) (R : List Addr) : Prop where
  sub : Sub F F'
  in_ : Sub F' H'
  keep : ∀ a u, H a = some u → a ∉ S → H' a = some u
  dom : ∀ a, H' a = none → H a = none
  newF : ∀ a, F' a ≠ none → F a ≠ none ∨ H a = none ∨ a ∈ S
  nd : R.Nodup
  fr : ∀ a ∈ R, F' a = none
  new : ∀ a ∈ R, H a = none ∨ a ∈ S

/-- what a def promises: what the evaluator says -/
def spEv (mg : Str → Option Value) (nm : Nm) (T : Tab) (n f : Nat) : Sp := fun vs H Q E => ∃ fd F args S, T f = some fd ∧ args.length = fd.ps ∧ Sub F H ∧ Owns mg nm F H args vs S ∧ S.Nodup ∧ (∀ a ∈ S, F a = none) ∧
  match callN T n f args with
  | .ret o fin => ∀ F' H' v S1 S2, CallEnd F H S F' H' (S1 ++ S2) → Own mg nm F' H' o v S1 → Owns mg nm F' H' fin (fd.mp.filterMap (vs[·]?)) S2 → Q v H'
  | .exc c d fin => ∀ F' H' C dx v S2, CallEnd F H S F' H' S2 → mg (nm.cls c) = some (.ref C) → H dx = none → H' dx = some (.xd [(("value" : Str), v)]) → Rep mg nm F' d v → Owns mg nm F' H' fin (fd.mp.filterMap (vs[·]?)) S2 → E (.ref C) (some dx) H'
  | .bad => False

/-- values that a call hands in -/
def AV (mg : Str → Option Value) (nm : Nm) (F H : Hp) (σ : L2.St) (ε : Env) (m : List Nat) : Nat → List Hn → List O → List Nat → List Nat → List V → Prop
  | _, [], os, ms, bs, vs => os = [] ∧ ms = [] ∧ bs = [] ∧ vs = []
  | j, h :: hs, os, ms, bs, vs => ∃ v vr o os', vs = v :: vr ∧ os = o :: os' ∧
      ((m.contains j = true ∧ ∃ i ms', ms = i :: ms' ∧ σ[i]? = some (some v) ∧ ε i = some o ∧ AV mg nm F H σ ε m (j + 1) hs os' ms' bs vr) ∨
      (m.contains j = false ∧ ∃ d, o = .im d ∧ ((Rep mg nm F d v ∧ AV mg nm F H σ ε m (j + 1) hs os' ms bs vr) ∨
        ∃ i bs' ds, bs = i :: bs' ∧ σ[i]? = some (some v) ∧ ((ε i = some (.ls ds) ∧ d = .lst ds) ∨ (ε i = some (.im d))) ∧ AV mg nm F H σ ε m (j + 1) hs os' ms bs' vr)))

def still : O → Bool
  | .im _ => true
  | .ls _ => true
  | .dc _ => true
  | _ => false
theorem rd_still {ε ε1 : Env} {h : Hn} {d : D} (e : rd ε h = some (d, ε1)) {i : Nat} {o : O} (ho : ε i = some o) (hs : still o = true) : ε1 i = some o := by
  cases h with
  | val o' => unfold rd at e; cases e; exact ho
  | slot j =>
    unfold rd at e
    dsimp only at e
    by_cases q : j = i
    · subst q
      rw [ho] at e
      cases o <;> first
        | (cases e; exact ho)
        | cases hs
    · cases ej : ε j with
      | none => rw [ej] at e; cases e
      | some o' =>
        rw [ej] at e
        cases o' <;> (cases e; first | exact ho | (unfold up; rw [if_neg (Ne.symm q)]; exact ho))
theorem rd_other {ε ε1 : Env} {h : Hn} {d : D} (e : rd ε h = some (d, ε1)) {i : Nat} (hi : ∀ j, h = .slot j → j = i → ∃ x, ε i = some (.im x)) : ε1 i = ε i := by
  cases h with
  | val o' => unfold rd at e; cases e; rfl
  | slot j =>
    unfold rd at e
    dsimp only at e
    by_cases q : j = i
    · obtain ⟨x, hx⟩ := hi j rfl q
      subst q
      rw [hx] at e
      cases e; rfl
    · cases ej : ε j with
      | none => rw [ej] at e; cases e
      | some o' =>
        rw [ej] at e
        cases o' <;> (cases e; first | rfl | (unfold up; rw [if_neg (Ne.symm q)]))
theorem args_still {m : List Nat} : ∀ {hs : List Hn} {j : Nat} {ε ε' : Env} {os : List O} {ms bs : List Nat}, callArgs ε m j hs = some (os, ms, bs, ε') → ∀ i o, ε i = some o → still o = true → ε' i = some o
  | [], j, ε, ε', os, ms, bs, e, i, o, ho, hs => by
    unfold callArgs at e; cases e; exact ho
  | h :: hs, j, ε, ε', os, ms, bs, e, i, o, ho, hst => by
    unfold callArgs at e
    split at e
    · split at e
      · split at e
        · split at e
          · rename_i q; cases e; exact args_still q i o ho hst
          · cases e
        · cases e
      · cases e
    · split at e
      · rename_i d ε1 q1
        split at e
        · rename_i os' ms' bs' ε2 q; cases e
          exact args_still q i o (rd_still q1 ho hst) hst
        · cases e
      · cases e
theorem args_other {m : List Nat} : ∀ {hs : List Hn} {j : Nat} {ε ε' : Env} {os : List O} {ms bs : List Nat}, callArgs ε m j hs = some (os, ms, bs, ε') → ∀ i, i ∉ bs → ε' i = ε i
  | [], j, ε, ε', os, ms, bs, e, i, hb => by
    unfold callArgs at e; cases e; rfl
  | h :: hs, j, ε, ε', os, ms, bs, e, i, hb => by
    unfold callArgs at e
    split at e
    · split at e
      · split at e
        · split at e
          · rename_i q; cases e; exact args_other q i hb
          · cases e
        · cases e
      · cases e
    · split at e
      · rename_i d ε1 q1
        split at e
        · rename_i os' ms' bs' ε2 q
          cases e
          have h1 : ∀ k, h = .slot k → k = i → ∃ x, ε i = some (.im x) := fun k hk hki => by
            subst hk; subst hki
            dsimp only at hb
            split at hb
            · rename_i x hx; exact ⟨x, hx⟩
            · exact absurd List.mem_cons_self hb
          have h2 : i ∉ bs' := by
            cases h with
            | val _ => exact hb
            | slot k =>
              dsimp only at hb
              split at hb
              · exact hb
              · exact fun z => hb (List.mem_cons_of_mem _ z)
          rw [args_other q i h2, rd_other q1 h1]
        · cases e
      · cases e
theorem AV.mono {F F' H : Hp} {σ : L2.St} {ε : Env} (s : Sub F F') {m : List Nat} : ∀ {hs : List Hn} {j : Nat} {os : List O} {ms bs : List Nat} {vs : List V}, AV mg nm F H σ ε m j hs os ms bs vs → AV mg nm F' H σ ε m j hs os ms bs vs
  | [], _, _, _, _, _, h => h
  | h :: hs, j, os, ms, bs, vs, a => by
    obtain ⟨v, vr, o, os', e1, e2, a⟩ := a
    refine ⟨v, vr, o, os', e1, e2, ?_⟩
    rcases a with ⟨c, i, ms', e3, e4, e5, a⟩ | ⟨c, d, e3, a⟩
    · exact .inl ⟨c, i, ms', e3, e4, e5, AV.mono s a⟩
    · refine .inr ⟨c, d, e3, ?_⟩
      rcases a with ⟨r, a⟩ | ⟨i, bs', ds, e4, e5, e6, a⟩
      · exact .inl ⟨Rep.mono s d v r, AV.mono s a⟩
      · exact .inr ⟨i, bs', ds, e4, e5, e6, AV.mono s a⟩
theorem args_ok {σ : L2.St} {F0 H0 : Hp} {Z0 : Nat → List Addr} {m : List Nat} : ∀ {hs : List Hn} {j : Nat} {F H : Hp} {Z : Nat → List Addr} {ε ε' : Env} {vs : List V} {S : List Addr} {os : List O} {ms bs : List Nat},
    Stp F0 H0 Z0 F H Z → RelS mg P.nm F H σ ε Z → HnRs mg P F H σ hs vs S → Tmp H0 Z0 F Z S → callArgs ε m j hs = some (os, ms, bs, ε') → (∀ i ∈ ms, i ∉ bs) →
    ∃ F' Z', Stp F0 H0 Z0 F' H Z' ∧ Sub F F' ∧ RelS mg P.nm F' H σ ε' Z' ∧ AV mg P.nm F' H σ ε' m j hs os ms bs vs
  | [], j, F, H, Z, ε, ε', vs, S, os, ms, bs, s, R, o, t, e, _ => by
    unfold callArgs at e; cases e
    exact ⟨F, Z, s, Sub.refl, R, rfl, rfl, rfl, o.1⟩
  | h :: hs, j, F, H, Z, ε, ε', vs, S, os, ms, bs, s, R, o, t, e, ok => by
    obtain ⟨v, w, S1, S2, e1, o1, o2, rfl⟩ := o
    unfold callArgs at e
    split at e
    · rename_i c
      cases h with
      | val _ => cases e
      | slot i =>
        dsimp only at e
        cases ei : ε i with
        | none => rw [ei] at e; cases e
        | some oi =>
          rw [ei] at e
          dsimp only at e
          cases q : callArgs ε m (j + 1) hs with
          | none => rw [q] at e; cases e
          | some p =>
            obtain ⟨os', ms', bs', ε2⟩ := p
            rw [q] at e; cases e
            obtain ⟨F1, Z1, s1, u1, R1, a1⟩ := args_ok s R o2 (t.sub (List.sublist_append_right S1 S2)) q fun k hk => ok k (List.mem_cons_of_mem _ hk)
            refine ⟨F1, Z1, s1, u1, R1, v, w, oi, os', e1, rfl, .inl ⟨c, i, ms', rfl, o1.1, ?_, a1⟩⟩
            rw [args_other q i (ok i List.mem_cons_self)]; exact ei
    · rename_i c
      have c' : m.contains j = false := by
        cases z : m.contains j with
        | true => exact absurd z c
        | false => rfl
      cases q1 : rd ε h with
      | none => rw [q1] at e; cases e
      | some p =>
        obtain ⟨d, ε1⟩ := p
        rw [q1] at e
        dsimp only at e
        cases q : callArgs ε1 m (j + 1) hs with
        | none => rw [q] at e; cases e
        | some p =>
          obtain ⟨os', ms', bs', ε2⟩ := p
          rw [q] at e
          dsimp only at e
          cases e
          obtain ⟨F1, Z1, s1, u1, R1, v1, t1, vr⟩ := rd_ok s R o1 t q1
          have ok' : ∀ i ∈ ms, i ∉ bs' := fun i hi hb => ok i hi (by
            cases h with
            | val _ => exact hb
            | slot k =>
              dsimp only
              split
              · exact hb
              · exact List.mem_cons_of_mem _ hb)
          obtain ⟨F2, Z2, s2, u2, R2, a2⟩ := args_ok s1 R1 (o2.mono u1 fun _ _ _ z => z) t1 q ok'
          refine ⟨F2, Z2, s2, u1.trans u2, R2, v, w, .im d, os', e1, rfl, .inr ⟨c', d, rfl, ?_⟩⟩
          cases h with
          | val o' =>
            unfold rd at q1; cases q1
            exact .inl ⟨Rep.mono u2 _ v (vr _ rfl), a2⟩
          | slot k =>
            unfold rd at q1
            dsimp only at q1
            dsimp only
            cases ek : ε k with
            | none => rw [ek] at q1; cases q1
            | some ok1 =>
              rw [ek] at q1
              cases ok1 with
              | im x =>
                cases q1
                obtain ⟨w', hw, ow⟩ := R.slot k _ ek
                have hv := o1.1
                rw [hw] at hv; cases hv
                exact .inl ⟨Rep.mono (u1.trans u2) _ v ow.1, a2⟩
              | ls ds =>
                cases q1
                exact .inr ⟨k, bs', ds, rfl, o1.1, .inl ⟨args_still q k _ ek rfl, rfl⟩, a2⟩
              | dc kvs =>
                obtain ⟨w', _, ow⟩ := R.slot k _ ek
                exact ow.elim
              | lst oss =>
                cases q1
                exact .inr ⟨k, bs', _, rfl, o1.1, .inl ⟨args_still q k _ (by unfold up; rw [if_pos rfl]) rfl, rfl⟩, a2⟩
              | tup oss =>
                cases q1
                exact .inr ⟨k, bs', [], rfl, o1.1, .inr (args_still q k _ (by unfold up; rw [if_pos rfl]) rfl), a2⟩

theorem av_owns {F G H : Hp} {σ : L2.St} {ε : Env} {Z : Nat → List Addr} (R : RelS mg nm F H σ ε Z) (sG : Sub F G) {m : List Nat} : ∀ {hs : List Hn} {j : Nat} {os : List O} {ms bs : List Nat} {vs : List V},
    AV mg nm F H σ ε m j hs os ms bs vs → (∀ i ∈ bs, ∀ a ∈ Z i, G a = H a) → Owns mg nm G H os vs (ms.flatMap Z)
  | [], _, os, ms, bs, vs, h, _ => by
    obtain ⟨rfl, rfl, rfl, rfl⟩ := h
    exact ⟨rfl, rfl⟩
  | h :: hs, j, os, ms, bs, vs, a, k => by
    obtain ⟨v, vr, o, os', rfl, rfl, a⟩ := a
    rcases a with ⟨c, i, ms', rfl, e4, e5, a⟩ | ⟨c, d, rfl, a⟩
    · obtain ⟨w, hw, ow⟩ := R.slot i o e5
      rw [e4] at hw; cases hw
      exact ⟨v, vr, Z i, ms'.flatMap Z, rfl, Own.mono sG o v _ ow fun _ _ _ z => z, av_owns R sG a k, by simp⟩
    · rcases a with ⟨r, a⟩ | ⟨i, bs', ds, rfl, e5, e6, a⟩
      · exact ⟨v, vr, [], ms.flatMap Z, rfl, ⟨Rep.mono sG d v r, rfl⟩, av_owns R sG a k, by simp⟩
      · refine ⟨v, vr, [], ms.flatMap Z, rfl, ⟨?_, rfl⟩, av_owns R sG a fun i hi => k i (List.mem_cons_of_mem _ hi), by simp⟩
        rcases e6 with ⟨e6, rfl⟩ | e6
        · obtain ⟨w, hw, ow⟩ := R.slot i _ e6
          rw [e5] at hw; cases hw
          exact Own.rep (.ls ds) v (Z i) ow sG (k i List.mem_cons_self)
        · obtain ⟨w, hw, ow⟩ := R.slot i _ e6
          rw [e5] at hw; cases hw
          exact Rep.mono sG d v ow.1
theorem av_bs {F H : Hp} {σ : L2.St} {ε : Env} {m : List Nat} : ∀ {hs : List Hn} {j : Nat} {os : List O} {ms bs : List Nat} {vs : List V},
    AV mg nm F H σ ε m j hs os ms bs vs → ∀ i ∈ bs, (∃ ds, ε i = some (.ls ds)) ∨ ∃ d, ε i = some (.im d)
  | [], _, os, ms, bs, vs, h, i, hi => by
    obtain ⟨rfl, rfl, rfl, rfl⟩ := h
    cases hi
  | h :: hs, j, os, ms, bs, vs, a, i, hi => by
    obtain ⟨v, vr, o, os', rfl, rfl, a⟩ := a
    rcases a with ⟨c, k, ms', rfl, e4, e5, a⟩ | ⟨c, d, rfl, a⟩
    · exact av_bs a i hi
    · rcases a with ⟨r, a⟩ | ⟨k, bs', ds, rfl, e5, e6, a⟩
      · exact av_bs a i hi
      · rcases List.mem_cons.mp hi with rfl | hi
        · rcases e6 with ⟨e6, rfl⟩ | e6
          · exact .inl ⟨ds, e6⟩
          · exact .inr ⟨d, e6⟩
        · exact av_bs a i hi
/-- the one argument that is handed in to be changed -/
theorem av_mv {F H : Hp} {σ : L2.St} {ε : Env} {k : Nat} : ∀ {hs : List Hn} {j : Nat} {os : List O} {ms bs : List Nat} {vs : List V},
    AV mg nm F H σ ε [k] j hs os ms bs vs → (ms = [] ∧ (k < j ∨ vs[k - j]? = none)) ∨ ∃ i v, ms = [i] ∧ j ≤ k ∧ vs[k - j]? = some v ∧ σ[i]? = some (some v)
  | [], _, os, ms, bs, vs, h => by
    obtain ⟨rfl, rfl, rfl, rfl⟩ := h
    exact .inl ⟨rfl, .inr rfl⟩
  | h :: hs, j, os, ms, bs, vs, a => by
    obtain ⟨v, vr, o, os', rfl, rfl, a⟩ := a
    have rest : ∀ {ms bs}, k ≠ j → AV mg nm F H σ ε [k] (j + 1) hs os' ms bs vr → (ms = [] ∧ (k < j ∨ (v :: vr)[k - j]? = none)) ∨ ∃ i w, ms = [i] ∧ j ≤ k ∧ (v :: vr)[k - j]? = some w ∧ σ[i]? = some (some w) := fun {ms bs} hk a => by
      rcases av_mv a with ⟨e, h⟩ | ⟨i, w, e, h1, h2, h3⟩
      · refine .inl ⟨e, ?_⟩
        rcases h with h | h
        · exact .inl (by omega)
        · by_cases q : k < j
          · exact .inl q
          · refine .inr ?_
            rw [show k - j = (k - (j + 1)) + 1 by omega]
            exact h
      · refine .inr ⟨i, w, e, by omega, ?_, h3⟩
        rw [show k - j = (k - (j + 1)) + 1 by omega]
        exact h2
    rcases a with ⟨c, i, ms', rfl, e4, e5, a⟩ | ⟨c, d, rfl, a⟩
    · have ek : j = k := by simpa using c
      subst ek
      rcases av_mv a with ⟨rfl, _⟩ | ⟨_, _, _, h1, _⟩
      · exact .inr ⟨i, v, rfl, Nat.le_refl _, by simp, e4⟩
      · omega
    · have ek : k ≠ j := fun z => by subst z; simp at c
      rcases a with ⟨r, a⟩ | ⟨i, bs', ds, rfl, e5, e6, a⟩
      · exact rest ek a
      · exact rest ek a
theorem av_none {F H : Hp} {σ : L2.St} {ε : Env} : ∀ {hs : List Hn} {j : Nat} {os : List O} {ms bs : List Nat} {vs : List V},
    AV mg nm F H σ ε [] j hs os ms bs vs → ms = []
  | [], _, os, ms, bs, vs, h => h.2.1
  | h :: hs, j, os, ms, bs, vs, a => by
    obtain ⟨v, vr, o, os', rfl, rfl, a⟩ := a
    rcases a with ⟨c, _⟩ | ⟨c, d, rfl, a⟩
    · cases c
    · rcases a with ⟨r, a⟩ | ⟨i, bs', ds, rfl, e5, e6, a⟩
      · exact av_none a
      · exact av_none a

/-! ### what cannot hold a list stays when lists go back to their owner -/
mutual
theorem Rep.cut {F F' : Hp} (k : ∀ a xs, F a = some (.tup xs) → F' a = some (.tup xs)) : ∀ (d : D) (v : V), d.flat = true → Rep mg nm F d v → Rep mg nm F' d v
  | .non, _, _, h => h
  | .bl _, _, _, h => h
  | .int _, _, _, h => h
  | .str _, _, _, h => h
  | .lst _, _, q, _ => by cases q
  | .tup xs, v, q, h => by
    obtain ⟨a, vs, e, q2, r⟩ := h
    unfold D.flat at q
    exact ⟨a, vs, e, k _ _ q2, Reps.cut k xs vs q r⟩
  | .dct _, _, q, _ => by cases q
  | .scr _, _, q, _ => by cases q
  | .fn _, _, _, h => h
  | .ty _, _, _, h => h
  | .cls _, _, _, h => h
  | .exc _ _, _, q, _ => by cases q
theorem Reps.cut {F F' : Hp} (k : ∀ a xs, F a = some (.tup xs) → F' a = some (.tup xs)) : ∀ (ds : List D) (vs : List V), D.flats ds = true → Reps mg nm F ds vs → Reps mg nm F' ds vs
  | [], _, _, h => h
  | d :: ds, vs, q, h => by
    obtain ⟨v, r, e, h1, h2⟩ := h
    unfold D.flats at q
    simp only [Bool.and_eq_true] at q
    exact ⟨v, r, e, Rep.cut k d v q.1 h1, Reps.cut k ds r q.2 h2⟩
end
mutual
theorem Own.cut {F F' H : Hp} (k : ∀ a xs, F a = some (.tup xs) → F' a = some (.tup xs)) : ∀ (o : O) (v : V) (S : List Addr), o.flat = true → Own mg nm F H o v S → Own mg nm F' H o v S
  | .im d, v, S, q, h => ⟨Rep.cut k d v (by unfold O.flat at q; exact q) h.1, h.2⟩
  | .ls ds, v, S, q, h => by
    obtain ⟨a, vs, e, q2, r, eS⟩ := h
    unfold O.flat at q
    exact ⟨a, vs, e, q2, Reps.cut k ds vs q r, eS⟩
  | .dc _, _, _, _, h => h.elim
  | .lst os, v, S, q, h => by
    obtain ⟨a, vs, R, e, q2, r, eS⟩ := h
    unfold O.flat at q
    exact ⟨a, vs, R, e, q2, Owns.cut k os vs R q r, eS⟩
  | .tup os, v, S, q, h => by
    obtain ⟨a, vs, R, e, q2, r, eS⟩ := h
    unfold O.flat at q
    exact ⟨a, vs, R, e, q2, Owns.cut k os vs R q r, eS⟩
theorem Owns.cut {F F' H : Hp} (k : ∀ a xs, F a = some (.tup xs) → F' a = some (.tup xs)) : ∀ (os : List O) (vs : List V) (S : List Addr), O.flats os = true → Owns mg nm F H os vs S → Owns mg nm F' H os vs S
  | [], _, _, _, h => h
  | o :: os, vs, S, q, h => by
    obtain ⟨v, r, S1, S2, e, h1, h2, eS⟩ := h
    unfold O.flats at q
    simp only [Bool.and_eq_true] at q
    exact ⟨v, r, S1, S2, e, Own.cut k o v S1 q.1 h1, Owns.cut k os r S2 q.2 h2, eS⟩
end
/-- the plain part without some addresses -/
def less (F : Hp) (B : List Addr) : Hp := fun a => if a ∈ B then none else F a
theorem less_nil {F : Hp} : less F [] = F := by funext a; exact if_neg (by simp)
theorem less_some {F : Hp} {B : List Addr} {a : Addr} {o : HO} (h : less F B a = some o) : a ∉ B ∧ F a = some o := by
  unfold less at h
  split at h
  · cases h
  · exact ⟨by assumption, h⟩

/-- behind a call: the state, the value -/
theorem call_end {σ : L2.St} {F0 H0 F H F2 H2 : Hp} {Z0 Z : Nat → List Addr} {ε ε1 : Env} {m : List Nat} {hs : List Hn} {os fin : List O} {ms bs : List Nat} {vs : List V} {o : O} {v : V} {S1 S2 : List Addr}
    (s : Stp F0 H0 Z0 F H Z) (R : RelS mg nm F H σ ε Z) (av : AV mg nm F H σ ε m 0 hs os ms bs vs) (hm : m.length ≤ 1) (ok : ∀ i ∈ ms, i ∉ bs)
    (ce : CallEnd (fz F H (bs.flatMap Z)) H (ms.flatMap Z) F2 H2 (S1 ++ S2)) (ow : Own mg nm F2 H2 o v S1) (of : Owns mg nm F2 H2 fin (m.filterMap (vs[·]?)) S2) (hu : ups ε ms fin = some ε1) :
    ∃ F3 Z3, Stp F0 H0 Z0 F3 H2 Z3 ∧ RelS mg nm F3 H2 σ (if (bs.isEmpty || (o.flat && O.flats fin)) = true then ε1 else freeze bs ε1) Z3 ∧ Own mg nm F3 H2 o v S1 ∧ Tmp H0 Z0 F3 Z3 S1 := by
  -- the changed name, if any
  have hms : (ms = [] ∧ fin = [] ∧ S2 = [] ∧ ε1 = ε) ∨ ∃ i w o', ms = [i] ∧ fin = [o'] ∧ σ[i]? = some (some w) ∧ Own mg nm F2 H2 o' w S2 ∧ ε1 = up ε i o' := by
    have e0 : ms = [] → m.filterMap (vs[·]?) = [] → fin = [] ∧ S2 = [] ∧ ε1 = ε := fun e1 e2 => by
      rw [e2] at of
      cases fin with
      | nil =>
        rw [e1] at hu
        unfold ups at hu; cases hu
        exact ⟨rfl, of.2, rfl⟩
      | cons _ _ => obtain ⟨_, _, _, _, z, _⟩ := of; cases z
    cases m with
    | nil =>
      have e1 := av_none av
      obtain ⟨a1, a2, a3⟩ := e0 e1 rfl
      exact .inl ⟨e1, a1, a2, a3⟩
    | cons k mr =>
      cases mr with
      | cons _ _ => simp at hm
      | nil =>
        rcases av_mv av with ⟨e1, h⟩ | ⟨i, w, e1, h1, h2, h3⟩
        · obtain ⟨a1, a2, a3⟩ := e0 e1 (by
            rcases h with h | h
            · omega
            · simp at h; simp [h])
          exact .inl ⟨e1, a1, a2, a3⟩
        · refine .inr ?_
          have e2 : ([k].filterMap (vs[·]?)) = [w] := by simp at h2; simp [h2]
          rw [e2] at of
          cases fin with
          | nil => cases of.1
          | cons o' fr =>
            obtain ⟨w', r', T1, T2, z, o1, o2, z2⟩ := of
            cases z
            cases fr with
            | cons _ _ => obtain ⟨_, _, _, _, z, _⟩ := o2; cases z
            | nil =>
              rw [e1] at hu
              unfold ups ups at hu
              cases hu
              have : S2 = T1 := by rw [z2, o2.2, List.append_nil]
              subst this
              exact ⟨i, w, o', e1, rfl, h3, o1, rfl⟩
  have inB : ∀ a ∈ bs.flatMap Z, ∃ i ∈ bs, a ∈ Z i := fun a h => by simpa using h
  have inS : ∀ a ∈ ms.flatMap Z, ∃ i ∈ ms, a ∈ Z i := fun a h => by simpa using h
  have BS : ∀ a ∈ bs.flatMap Z, a ∉ ms.flatMap Z := fun a h1 h2 => by
    obtain ⟨i, hi, ha⟩ := inB a h1
    obtain ⟨j, hj, hb⟩ := inS a h2
    exact R.dj i j (fun z => ok j hj (z ▸ hi)) a ha hb
  have lstB : ∀ a ∈ bs.flatMap Z, ∃ xs, H a = some (.lst xs) := fun a h => by
    obtain ⟨i, hi, ha⟩ := inB a h
    rcases av_bs av i hi with ⟨ds, e⟩ | ⟨d, e⟩
    · obtain ⟨w, _, b, vs', e1, e2, _, e3⟩ := R.slot i _ e
      rw [e3] at ha
      simp at ha; subst ha
      exact ⟨_, e2⟩
    · obtain ⟨w, _, _, e3⟩ := R.slot i _ e
      rw [e3] at ha; cases ha
  have notS : ∀ k, k ∉ ms → ∀ a ∈ Z k, a ∉ ms.flatMap Z := fun k hk a ha h => by
    obtain ⟨j, hj, hb⟩ := inS a h
    exact R.dj k j (fun z => hk (z ▸ hj)) a ha hb
  have tupB : ∀ a xs, F2 a = some (.tup xs) → less F2 (bs.flatMap Z) a = some (.tup xs) := fun a xs e => by
    unfold less
    split
    · rename_i hb
      obtain ⟨ys, e1⟩ := lstB a hb
      have e2 := ce.keep a _ e1 (BS a hb)
      have e3 := ce.in_ _ _ e
      rw [e2] at e3; cases e3
    · exact e
  -- the parts that both ends share, at a plain part between
  have main : ∀ (F3 : Hp) (εf : Env) (Z3 : Nat → List Addr), Sub F F3 → Sub F3 F2 → (∀ a ∈ bs.flatMap Z, (∃ k, a ∈ Z3 k) → F3 a = none) →
      (∀ k, k ∈ ms → Z3 k = S2) → (∀ k, k ∉ ms → Z3 k = Z k ∨ Z3 k = []) → (∀ k o, εf k = some o → ∃ w, σ[k]? = some (some w) ∧ Own mg nm F3 H2 o w (Z3 k)) → (∀ k, εf k = none → Z3 k = []) → Own mg nm F3 H2 o v S1 →
      Stp F0 H0 Z0 F3 H2 Z3 ∧ RelS mg nm F3 H2 σ εf Z3 ∧ Own mg nm F3 H2 o v S1 ∧ Tmp H0 Z0 F3 Z3 S1 := by
    intro F3 εf Z3 f1 f2 f3 z1 z2 sl em ow3
    have ndA := List.nodup_append.mp ce.nd
    have one : ∀ i ∈ ms, ∀ j ∈ ms, i = j := by
      rcases hms with ⟨e, _⟩ | ⟨i, w, o', e, _⟩
      · rw [e]; intro i hi; cases hi
      · rw [e]; intro a ha b hb; simp at ha hb; rw [ha, hb]
    have S2Z : ∀ a ∈ S2, ∀ k, k ∉ ms → a ∉ Z k := fun a ha k hk hz => by
      rcases ce.new a (List.mem_append_right _ ha) with e | e
      · obtain ⟨u, q⟩ := R.dom hz
        rw [e] at q; cases q
      · exact notS k hk a hz e
    have S1Z : ∀ a ∈ S1, ∀ k, k ∉ ms → a ∉ Z k := fun a ha k hk hz => by
      rcases ce.new a (List.mem_append_left _ ha) with e | e
      · obtain ⟨u, q⟩ := R.dom hz
        rw [e] at q; cases q
      · exact notS k hk a hz e
    have Z3Z : ∀ k, k ∉ ms → ∀ a ∈ Z3 k, a ∈ Z k := fun k hk a ha => by
      rcases z2 k hk with e | e
      · rw [e] at ha; exact ha
      · rw [e] at ha; cases ha
    have stp : Stp F H Z F3 H2 Z3 := by
      refine ⟨f1, fun a u e hz => ce.keep a u e fun h => ?_, ce.dom, fun a e => ?_, fun k a ha => ?_⟩
      · obtain ⟨i, _, hb⟩ := inS a h
        exact hz i hb
      · have e2 : F2 a ≠ none := fun z => by
          cases q : F3 a with
          | none => exact e q
          | some u => rw [f2 _ _ q] at z; cases z
        rcases ce.newF a e2 with q | q | q
        · by_cases hb : a ∈ bs.flatMap Z
          · obtain ⟨i, _, hi⟩ := inB a hb
            exact .inr (.inr ⟨i, hi⟩)
          · rw [fz_out hb] at q; exact .inl q
        · exact .inr (.inl q)
        · obtain ⟨i, _, hi⟩ := inS a q
          exact .inr (.inr ⟨i, hi⟩)
      · by_cases hk : k ∈ ms
        · rw [z1 k hk] at ha
          rcases ce.new a (List.mem_append_right _ ha) with q | q
          · exact .inl q
          · obtain ⟨i, _, hi⟩ := inS a q
            exact .inr ⟨i, hi⟩
        · exact .inr ⟨k, Z3Z k hk a ha⟩
    refine ⟨s.trans stp, ⟨f2.trans ce.in_, sl, em, fun k => ?_, fun i j hij a ha hb => ?_, fun k a ha => ?_⟩, ow3, ⟨ndA.1, fun a ha => ?_, fun a ha k hk => ?_, fun a ha => ?_⟩⟩
    · by_cases hk : k ∈ ms
      · rw [z1 k hk]; exact ndA.2.1
      · rcases z2 k hk with e | e
        · rw [e]; exact R.nd k
        · rw [e]; exact List.nodup_nil
    · by_cases hi : i ∈ ms
      · by_cases hj : j ∈ ms
        · exact hij (one i hi j hj)
        · rw [z1 i hi] at ha
          exact S2Z a ha j hj (Z3Z j hj a hb)
      · by_cases hj : j ∈ ms
        · rw [z1 j hj] at hb
          exact S2Z a hb i hi (Z3Z i hi a ha)
        · exact R.dj i j hij a (Z3Z i hi a ha) (Z3Z j hj a hb)
    · by_cases hk : k ∈ ms
      · rw [z1 k hk] at ha
        have e := ce.fr a (List.mem_append_right _ ha)
        cases q : F3 a with
        | none => rfl
        | some u => rw [f2 _ _ q] at e; cases e
      · have hz := Z3Z k hk a ha
        cases q : F3 a with
        | none => rfl
        | some u =>
          have q2 := f2 _ _ q
          rcases ce.newF a (by rw [q2]; exact fun z => by cases z) with z | z | z
          · by_cases hb : a ∈ bs.flatMap Z
            · rw [f3 a hb ⟨k, ha⟩] at q; cases q
            · rw [fz_out hb] at z; exact absurd (R.fr k a hz) z
          · obtain ⟨w, e⟩ := R.dom hz
            rw [z] at e; cases e
          · exact absurd z (notS k hk a hz)
    · have e := ce.fr a (List.mem_append_left _ ha)
      cases q : F3 a with
      | none => rfl
      | some u => rw [f2 _ _ q] at e; cases e
    · by_cases hm' : k ∈ ms
      · rw [z1 k hm'] at hk
        exact ndA.2.2 a ha a hk rfl
      · exact S1Z a ha k hm' (Z3Z k hm' a hk)
    · rcases ce.new a (List.mem_append_left _ ha) with q | q
      · exact .inl (s.dom a q)
      · obtain ⟨i, _, hi⟩ := inS a q
        exact s.newZ i a hi
  -- names that the call did not change
  have old : ∀ (F3 : Hp), Sub F F3 → ∀ k o, k ∉ ms → ε k = some o → ∃ w, σ[k]? = some (some w) ∧ Own mg nm F3 H2 o w (Z k) := fun F3 f1 k o' hk e => by
    obtain ⟨w, h1, h2⟩ := R.slot k o' e
    exact ⟨w, h1, Own.mono f1 o' w _ h2 fun a ha u q => ce.keep a u q (notS k hk a ha)⟩
  have FG : Sub F F2 := (fz_sub R.sub).trans ce.sub
  have FL : Sub F (less F2 (bs.flatMap Z)) := fun a u e => by
    unfold less
    split
    · rename_i hb
      obtain ⟨i, _, hi⟩ := inB a hb
      rw [R.fr i a hi] at e; cases e
    · exact FG _ _ e
  have e1k : ∀ k, k ∉ ms → ε1 k = ε k := fun k hk => by
    rcases hms with ⟨_, _, _, e⟩ | ⟨i, w, o', e, _, _, _, e2⟩
    · rw [e]
    · rw [e2]; unfold up
      rw [if_neg]
      intro z; subst z; rw [e] at hk; simp at hk
  by_cases c : (bs.isEmpty || (o.flat && O.flats fin)) = true
  · rw [if_pos c]
    -- what was shown goes back
    have own3 : ∀ {o' : O} {w : V} {S : List Addr}, (bs.isEmpty = false → o'.flat = true) → Own mg nm F2 H2 o' w S → Own mg nm (less F2 (bs.flatMap Z)) H2 o' w S := fun {o' w S} hf h => by
      cases hb : bs with
      | nil => simp only [List.flatMap_nil, less_nil]; exact h
      | cons b r =>
        rw [← hb]
        exact Own.cut tupB o' w S (hf (by rw [hb]; rfl)) h
    have fl : bs.isEmpty = false → o.flat = true ∧ O.flats fin = true := fun hb => by
      rw [hb] at c
      simpa using c
    refine ⟨less F2 (bs.flatMap Z), fun k => if k ∈ ms then S2 else Z k, main _ _ _ FL (fun a u e => (less_some e).2) (fun a hb _ => if_pos hb) (fun k hk => if_pos hk) (fun k hk => .inl (if_neg hk)) (fun k o' e => ?_) (fun k e => ?_) (own3 (fun hb => (fl hb).1) ow)⟩
    · by_cases hk : k ∈ ms
      · rcases hms with ⟨e0, _⟩ | ⟨i, w, o2, e0, e3, e4, e5, e6⟩
        · rw [e0] at hk; cases hk
        · rw [e0] at hk
          simp at hk; subst hk
          rw [e6] at e
          unfold up at e
          rw [if_pos rfl] at e; cases e
          refine ⟨w, e4, ?_⟩
          rw [if_pos (by rw [e0]; simp)]
          refine own3 (fun hb => ?_) e5
          have z := (fl hb).2
          rw [e3] at z
          unfold O.flats at z
          simp only [Bool.and_eq_true] at z
          exact z.1
      · rw [e1k k hk] at e
        rw [if_neg hk]
        exact old _ FL k o' hk e
    · by_cases hk : k ∈ ms
      · rcases hms with ⟨e0, _⟩ | ⟨i, w, o2, e0, e3, e4, e5, e6⟩
        · rw [e0] at hk; cases hk
        · rw [e0] at hk
          simp at hk; subst hk
          rw [e6] at e
          unfold up at e
          rw [if_pos rfl] at e; cases e
      · rw [e1k k hk] at e
        rw [if_neg hk]
        exact R.emp k e
  · rw [if_neg c]
    -- what was shown is plain for good
    refine ⟨F2, fun k => if k ∈ ms then S2 else if k ∈ bs then [] else Z k, main _ _ _ FG Sub.refl (fun a hb ⟨k, hk⟩ => ?_) (fun k hk => if_pos hk) (fun k hk => ?_) (fun k o' e => ?_) (fun k e => ?_) ow⟩
    · obtain ⟨i, hi, ha⟩ := inB a hb
      by_cases h1 : k ∈ ms
      · rw [if_pos h1] at hk
        rcases ce.new a (List.mem_append_right _ hk) with q | q
        · obtain ⟨u, z⟩ := R.dom ha
          rw [q] at z; cases z
        · exact absurd q (BS a hb)
      · rw [if_neg h1] at hk
        by_cases h2 : k ∈ bs
        · rw [if_pos h2] at hk; cases hk
        · rw [if_neg h2] at hk
          exact absurd hk (R.dj i k (fun z => h2 (z ▸ hi)) a ha)
    · show (if k ∈ ms then S2 else if k ∈ bs then [] else Z k) = Z k ∨ _
      rw [if_neg hk]
      by_cases h2 : k ∈ bs
      · exact .inr (if_pos h2)
      · exact .inl (if_neg h2)
    · unfold freeze at e
      by_cases hk : k ∈ ms
      · have hkb := ok k hk
        rw [if_neg (by simpa using hkb)] at e
        rcases hms with ⟨e0, _⟩ | ⟨i, w, o2, e0, e3, e4, e5, e6⟩
        · rw [e0] at hk; cases hk
        · have ek : k = i := by rw [e0] at hk; simpa using hk
          subst ek
          rw [e6] at e
          unfold up at e
          rw [if_pos rfl] at e; cases e
          refine ⟨w, e4, ?_⟩
          rw [if_pos hk]
          exact e5
      · by_cases hb : k ∈ bs
        · rw [if_pos (by simpa using hb), e1k k hk] at e
          cases q : ε k with
          | none => rw [q] at e; cases e
          | some o2 =>
            rw [q] at e
            cases e
            obtain ⟨w, h1, h2⟩ := R.slot k o2 q
            refine ⟨w, h1, ?_⟩
            rw [if_neg hk, if_pos hb]
            refine ⟨?_, rfl⟩
            have g1 : Rep mg nm (fz F H (bs.flatMap Z)) o2.er w := Own.rep o2 w _ h2 (fz_sub R.sub) fun a ha => fz_in (by simp; exact ⟨k, hb, ha⟩)
            exact Rep.mono ce.sub _ w g1
        · rw [if_neg (by simpa using hb), e1k k hk] at e
          rw [if_neg hk, if_neg hb]
          exact old _ FG k o' hk e
    · unfold freeze at e
      by_cases hk : k ∈ ms
      · have hkb := ok k hk
        rw [if_neg (by simpa using hkb)] at e
        rcases hms with ⟨e0, _⟩ | ⟨i, w, o2, e0, e3, e4, e5, e6⟩
        · rw [e0] at hk; cases hk
        · have ek : k = i := by rw [e0] at hk; simpa using hk
          subst ek
          rw [e6] at e
          unfold up at e
          rw [if_pos rfl] at e; cases e
      · rw [if_neg hk]
        by_cases hb : k ∈ bs
        · exact if_pos hb
        · rw [if_neg hb]
          rw [if_neg (by simpa using hb), e1k k hk] at e
          exact R.emp k e
end
end Ev
end
section
set_option linter.all false
set_option maxRecDepth 100000
set_option maxHeartbeats 4000000
/-! From a call's evaluation to a def's promise. -/
namespace Ev
open PySem L2
section
variable {X : Cx} {P : Pm} {nm : Nm} {mg : Str → Option Value} {T : Tab} {n : Nat}

theorem okArgs_mem : ∀ {ms bs : List Nat}, okArgs ms bs = true → ∀ i ∈ ms, i ∉ bs
  | [], _, _, i, hi => by cases hi
  | m :: r, bs, h, i, hi => by
    unfold okArgs at h
    simp only [Bool.and_eq_true, Bool.not_eq_true'] at h
    rcases List.mem_cons.mp hi with rfl | hi
    · intro hb
      have := h.1.2
      rw [List.contains_iff_mem.mpr hb] at this; cases this
    · exact okArgs_mem h.2 i hi
theorem ms_one {F H : Hp} {σ : L2.St} {ε : Env} {m : List Nat} {hs : List Hn} {os : List O} {ms bs : List Nat} {vs : List V} (hm : m.length ≤ 1) (av : AV mg nm F H σ ε m 0 hs os ms bs vs) : ms = [] ∨ ∃ i, ms = [i] := by
  cases m with
  | nil => exact .inl (av_none av)
  | cons k mr =>
    cases mr with
    | cons _ _ => simp at hm
    | nil =>
      rcases av_mv av with ⟨e, _⟩ | ⟨i, _, e, _⟩
      · exact .inl e
      · exact .inr ⟨i, e⟩

theorem call_ok (hcl : P.cl = callN T n) (hsg : P.sg = T.sg) (hmp : ∀ f fd, T f = some fd → fd.mp.length ≤ 1) {f : Nat} {σ : L2.St} {F0 H0 F H : Hp} {Z0 Z : Nat → List Addr} {ε : Env} {hs : List Hn} {vs : List V} {S : List Addr} {Q : VK}
    (s : Stp F0 H0 Z0 F H Z) (R : RelS mg P.nm F H σ ε Z) (o : HnRs mg P F H σ hs vs S) (t : Tmp H0 Z0 F Z S)
    (k : After (doCall P.cl P.sg f hs ε) (kO mg P σ F0 H0 Z0 Q) (xW mg P σ F0 H0 Z0)) : spEv mg P.nm T n f vs H Q (fun cls d H' => P.W cls d σ H') := by
  unfold doCall at k
  rw [hcl, hsg] at k
  cases q : callArgs ε (T.sg f) 0 hs with
  | none => rw [q] at k; exact k.elim
  | some p =>
    obtain ⟨os, ms, bs, ε1⟩ := p
    rw [q] at k
    dsimp only at k
    by_cases ok : okArgs ms bs = true
    · rw [if_pos ok] at k
      have okm := okArgs_mem ok
      obtain ⟨F1, Z1, s1, u1, R1, av⟩ := args_ok s R o t q okm
      cases hT : T f with
      | none =>
        have : callN T n f os = .bad := by
          cases n with
          | zero => rw [callN]
          | succ n => rw [callN, hT]
        rw [this] at k
        exact k.elim
      | some fd =>
        have hsf : T.sg f = fd.mp := by unfold Tab.sg; rw [hT]
        rw [hsf] at av
        have hm := hmp f fd hT
        have one := ms_one hm av
        have hlen : os.length = fd.ps := by
          cases n with
          | zero => rw [callN] at k; exact k.elim
          | succ n =>
            rw [callN, hT] at k
            dsimp only at k
            by_cases z : os.length = fd.ps
            · exact z
            · rw [if_neg z] at k; exact k.elim
        have nd : (ms.flatMap Z1).Nodup := by
          rcases one with e | ⟨i, e⟩
          · rw [e]; exact List.nodup_nil
          · rw [e]; simp; exact R1.nd i
        refine ⟨fd, fz F1 H (bs.flatMap Z1), os, ms.flatMap Z1, hT, hlen, fz_sub2 R1.sub, av_owns R1 (fz_sub R1.sub) av fun i hi a ha => fz_in (List.mem_flatMap.mpr ⟨i, hi, ha⟩), nd, fun a ha => ?_, ?_⟩
        · obtain ⟨i, hi, ha⟩ := List.mem_flatMap.mp ha
          rw [fz_out]
          · exact R1.fr i a ha
          · intro hb
            obtain ⟨j, hj, hb⟩ := List.mem_flatMap.mp hb
            exact R1.dj i j (fun z => okm i hi (z ▸ hj)) a ha hb
        · cases hc : callN T n f os with
          | bad => rw [hc] at k; exact k.elim
          | ret o' fin =>
            rw [hc] at k
            dsimp only
            intro F' H' v S1 S2 ce ow of
            unfold ended at k
            dsimp only at k
            cases hu : ups ε1 ms fin with
            | none => rw [hu] at k; exact k.elim
            | some ε2 =>
              rw [hu] at k
              dsimp only at k
              obtain ⟨F3, Z3, a1, a2, a3, a4⟩ := call_end s1 R1 av hm okm ce ow of hu
              split at k
              · rename_i c
                rw [if_pos c] at a2
                exact k F3 H' Z3 v S1 a1 a2 a3 a4
              · rename_i c
                rw [if_neg c] at a2
                exact k F3 H' Z3 v S1 a1 a2 a3 a4
          | exc c d fin =>
            rw [hc] at k
            dsimp only
            intro F' H' C dx v S2 ce hC h0 hdx rp of
            unfold ended at k
            dsimp only at k
            cases hu : ups ε1 ms fin with
            | none => rw [hu] at k; exact k.elim
            | some ε2 =>
              rw [hu] at k
              dsimp only at k
              have ow : Own mg P.nm F' H' (.im d) v [] := ⟨rp, rfl⟩
              obtain ⟨F3, Z3, a1, a2, a3, a4⟩ := call_end (S1 := []) s1 R1 av hm okm ce ow of hu
              have fl : (O.im d).flat = d.flat := by rw [O.flat]
              rw [fl] at a2
              split at k
              · rename_i c
                rw [if_pos c] at a2
                exact k F3 H' Z3 C dx v a1 a2 hC (s1.dom dx h0) hdx a3.1
              · rename_i c
                rw [if_neg c] at a2
                exact k F3 H' Z3 C dx v a1 a2 hC (s1.dom dx h0) hdx a3.1
    · rw [if_neg ok] at k; exact k.elim
end
end Ev
end
section
set_option linter.all false
set_option maxRecDepth 100000
set_option maxHeartbeats 4000000
/-! Promises of defs; calls. -/
namespace Ev
open PySem PySem.Spec PyProof.Rows L2

/-- a def keeps its promise where no repr is under way -/
structure FnG (prg : Program) (wo : World) (K : PySem.W.Frag) (mg : Str → Option Value) (base : Heap) (n : Nat) (fa : Addr) (fd : FuncData) (ps : List Str) (sp : Sp) : Prop where
  len : ∀ xs H0 Q0 E0, sp xs H0 Q0 E0 → xs.length = ps.length
  run : ∀ (A0 : Around) (out : List PySem.Env) (s0 : Shared) (H0 : Hp) (ar : Args) (us : List Value) (xs : List V) (Q0 : VK) (E0 : XK), A0.guards = some [] → Room n A0 → Env0 prg wo K mg base A0 out s0 H0 → BindsTo s0 fd ar (ps.zip us) → Vals xs us → sp xs H0 Q0 E0 →
    codeAny (model prg wo) A0 (.call (.ref fa) ar) (CR (L2.CX prg wo) out prg wo H0 s0 Q0 E0) s0

section
variable {X : Cx} {n : Nat} {fa : Addr} {fd : FuncData} {ps : List Str} {sp : Sp} {x : Str} {p pos : Pos} {e : Expr} {es : List Expr} {t : TA}
theorem run_fnG {pins : List (Addr × Obj)} {σ : L2.St} {H : Hp} {s : Shared} {Q : VK} {us : List Value} {vs : List V} {E0 : XK} {ar : Args} (F : FnG X.prog X.w X.K X.mg X.base n fa fd ps sp) (hr : Room n X.A) (gd : X.A.guards = some []) (b : BindsTo s fd ar (ps.zip us)) (hx : PassesAt (L2.CX X.prog X.w) X σ E0)
    (I : Inv X pins σ H s) (r : Vals vs us) (h : sp vs H Q E0) : codeAny (model X.prog X.w) X.A (.call (.ref fa) ar) (fun r s' => match r with
      | .ok (.ret u) => EP X pins σ Q u s'
      | .ok _ => False
      | .error e => X.xe e s') s := by
  refine codeAny_mono (F.run X.A X.stack s H ar us vs Q E0 gd hr I.env0 b r h) fun r s' hq => ?_
  cases r with
  | error e => exact hx pins H s e s' I hq
  | ok fl => cases fl with
    | ret u => exact I.after hq
    | _ => exact hq.elim
end

/-- the module's things, as the evaluator's table names them -/
structure GX (X : Cx) (P : Pm) (T : Tab) (n : Nat) (pn : Nat → List Str) (kt : Nat → List (List Str × List Nat)) : Prop where
  cl : P.cl = callN T n
  sg : P.sg = T.sg
  one : ∀ f fd, T f = some fd → fd.mp.length ≤ 1
  nd : X.N.Nodup
  calm : X.calm = true
  room : Room n X.A
  gd : X.A.guards = some []
  tk : Takes X P.W
  fns : ∀ f fd, T f = some fd → ∃ a fo, X.mg (P.nm.fn f) = some (.ref a) ∧ PySem.W.keepIn X.K (.ref a) = true ∧ FnG X.prog X.w X.K X.mg X.base n a fo (pn f) (spEv X.mg P.nm T n f) ∧ (pn f).length = fd.ps ∧
    (∀ us : List Value, us.length = (pn f).length → bindArgs fo ⟨us, []⟩ = pure ((pn f).zip us)) ∧
    ∀ q ∈ kt f, q.2.Nodup ∧ ∀ ws : List Value, ws.length = q.1.length → bindArgs fo ⟨[], q.1.zip ws⟩ = pure ((pn f).zip (q.2.filterMap (ws[·]?)))
  tot : ∀ f a, X.mg (P.nm.fn f) = some (.ref a) → PySem.W.keepIn X.K (.ref a) = true
  cls : Apart X.K X.mg P.nm
  kk : P.nm.K = X.K

section
variable {X : Cx} {P : Pm} {T : Tab} {n : Nat} {pn : Nat → List Str} {kt : Nat → List (List Str × List Nat)} {f : Nat} {x : Str} {p pos : Pos} {e : Expr} {es : List Expr} {ta : TA}
/-- what a call's operands must be ahead of it -/
def tCal (T : Tab) (n f : Nat) (mg : Str → Option Value) (P : Pm) (ta : TA) : TE := fun σ H Q => ta σ H fun vs H1 => spEv mg P.nm T n f vs H1 Q (fun cls d H' => P.W cls d σ H')
theorem spEv_some {mg : Str → Option Value} {nm : Nm} {vs : List V} {H : Hp} {Q : VK} {E : XK} (h : spEv mg nm T n f vs H Q E) : ∃ fd, T f = some fd := by
  obtain ⟨fd, _, _, _, e, _⟩ := h; exact ⟨fd, e⟩
theorem pe_cal (G : GX X P T n pn kt) {fd : FnDef} (hT : T f = some fd) (hg : L2.Gl X (P.nm.fn f)) (hd : (P.nm.fn f == ("__debug__" : Str)) = false) (ha : PA X (e :: es) ta)
    (he : starEach (e :: es) X.env = (false, eval e X.env) :: starEach es X.env) (hpl : (backTo pos (starEach es X.env)).any (·.1) = false) : PE X (.Call (.Name (P.nm.fn f) p) (e :: es) [] pos) (tCal T n f X.mg P ta) := by
  obtain ⟨a, fo, hm, hk, F, hl, hb, _⟩ := G.fns f fd hT
  refine ⟨fun pins s σ H Q I h => ?_⟩
  refine wpAny_Call_Name_kw (ld_glob I hg hm ?_ hd)
  refine PySem.W.callWith_K (h₀ := X.base) I.ok.mod.kin hk (thn (ha.run pos pins s σ H _ I h) fun us s1 ⟨vs, H1, I1, r, q⟩ => ⟨I1.kIn, ?_⟩) he hpl
  have hlen : us.length = (pn f).length := by rw [← r.length]; exact F.len _ _ _ _ q
  refine wpAny_call (codeAny_mono (run_fnG F G.room G.gd (.of_eq (hb us hlen)) (passAt G.tk σ) I1 r q) fun r s' hq => ?_)
  cases r with
  | error e => exact hq
  | ok fl => cases fl <;> exact hq
theorem pe_cal0 (G : GX X P T n pn kt) {fd : FnDef} (hT : T f = some fd) (hg : L2.Gl X (P.nm.fn f)) (hd : (P.nm.fn f == ("__debug__" : Str)) = false) : PE X (.Call (.Name (P.nm.fn f) p) [] [] pos) (tCal T n f X.mg P tNil) := by
  obtain ⟨a, fo, hm, hk, F, hl, hb, _⟩ := G.fns f fd hT
  refine ⟨fun pins s σ H Q I h => ?_⟩
  refine wpAny_Call_Name_kw (ld_glob I hg hm ?_ hd)
  have h' : spEv X.mg P.nm T n f [] H Q (fun cls d H' => P.W cls d σ H') := h
  have hlen : ([] : List Value).length = (pn f).length := F.len _ _ _ _ h'
  refine PySem.W.callWith_K0 I.kIn hk (wpAny_call (codeAny_mono (run_fnG F G.room G.gd (.of_eq (hb [] hlen)) (passAt G.tk σ) I .nil h') fun r s' hq => ?_))
  cases r with
  | error e => exact hq
  | ok fl => cases fl <;> exact hq
theorem cal_of {mg : Str → Option Value} (hcl : P.cl = callN T n) (hsg : P.sg = T.sg) (hone : ∀ f fd, T f = some fd → fd.mp.length ≤ 1) {es : List Ex} : ∀ σ H Q, tE mg P (.call f es) σ H Q → tCal T n f mg P (tHs mg P es) σ H Q := by
  rintro σ H Q ⟨F, Z, ε, R, h⟩
  unfold evE at h
  refine ⟨F, Z, ε, R, (After.bind h).imp (fun hs ε1 k F1 H1 Z1 vs S s1 r1 o1 t1 => ?_) fun _ _ _ z => z⟩
  exact call_ok hcl hsg hone s1 r1 o1 t1 k
end
end Ev
end
section
set_option linter.all false
set_option maxRecDepth 100000
set_option maxHeartbeats 4000000
/-! What is lent for one expression; keyword calls; calls of a def that a name holds. -/
namespace Ev
open PySem PySem.Spec PyProof.Rows L2
section
variable {X : Cx} {P : Pm} {nm : Nm} {mg : Str → Option Value}
theorem Rep.scal {F F' : Hp} : ∀ {d : D} {v : V}, d.scal = true → Rep mg nm F d v → Rep mg nm F' d v
  | .non, _, _, h => h
  | .bl _, _, _, h => h
  | .int _, _, _, h => h
  | .str _, _, _, h => h
  | .fn _, _, _, h => h
  | .ty _, _, _, h => h
  | .cls _, _, _, h => h
  | .lst _, _, q, _ => by cases q
  | .tup _, _, q, _ => by cases q
  | .dct _, _, q, _ => by cases q
  | .scr _, _, q, _ => by cases q
  | .exc _ _, _, q, _ => by cases q
theorem Reps.scal {F F' : Hp} : ∀ {ds : List D} {vs : List V}, ds.all D.scal = true → Reps mg nm F ds vs → Reps mg nm F' ds vs
  | [], _, _, h => h
  | d :: ds, vs, q, h => by
    obtain ⟨v, r, e, h1, h2⟩ := h
    simp only [List.all_cons, Bool.and_eq_true] at q
    exact ⟨v, r, e, Rep.scal q.1 h1, Reps.scal q.2 h2⟩
/-- the addresses of the names that are lent -/
def lent (σ : L2.St) (m : List Nat) (Z : Nat → List Addr) : List Addr := (List.range σ.length).flatMap fun i => if m.contains i then [] else Z i
theorem lent_of {σ : L2.St} {m : List Nat} {Z : Nat → List Addr} {a : Addr} (h : a ∈ lent σ m Z) : ∃ i, m.contains i = false ∧ a ∈ Z i := by
  obtain ⟨i, _, hi⟩ := List.mem_flatMap.mp h
  by_cases c : m.contains i = true
  · rw [if_pos c] at hi; cases hi
  · rw [if_neg c] at hi
    exact ⟨i, by simpa using c, hi⟩
theorem lent_in {F H : Hp} {σ : L2.St} {ε : Env} {Z : Nat → List Addr} (R : RelS mg nm F H σ ε Z) {m : List Nat} {i : Nat} {a : Addr} (c : m.contains i = false) (h : a ∈ Z i) : a ∈ lent σ m Z := by
  refine List.mem_flatMap.mpr ⟨i, ?_, by rw [if_neg (by simpa using c)]; exact h⟩
  cases e : ε i with
  | none => rw [R.emp i e] at h; cases h
  | some o =>
    obtain ⟨v, hv, _⟩ := R.slot i o e
    rw [List.mem_range]
    exact (List.getElem?_eq_some_iff.mp hv).1
theorem lent_ok {F H : Hp} {σ : L2.St} {ε : Env} {Z : Nat → List Addr} (R : RelS mg nm F H σ ε Z) (m : List Nat) :
    Stp F H Z (fz F H (lent σ m Z)) H (fun i => if m.contains i then Z i else []) ∧ RelS mg nm (fz F H (lent σ m Z)) H σ (froz m ε) (fun i => if m.contains i then Z i else []) := by
  have nB : ∀ i, m.contains i = true → ∀ a ∈ Z i, a ∉ lent σ m Z := fun i c a ha hb => by
    obtain ⟨j, cj, hj⟩ := lent_of hb
    exact R.dj i j (fun z => by rw [z, cj] at c; cases c) a ha hj
  refine ⟨⟨fz_sub R.sub, fun _ _ h _ => h, fun _ h => h, fun a h => ?_, fun i a ha => ?_⟩, ⟨fz_sub2 R.sub, fun i o e => ?_, fun i e => ?_, fun i => ?_, fun i j hij a ha hb => ?_, fun i a ha => ?_⟩⟩
  · by_cases q : a ∈ lent σ m Z
    · obtain ⟨i, _, hi⟩ := lent_of q
      exact .inr (.inr ⟨i, hi⟩)
    · rw [fz_out q] at h; exact .inl h
  · try dsimp only at ha
    by_cases c : m.contains i = true
    · rw [if_pos c] at ha; exact .inr ⟨i, ha⟩
    · rw [if_neg c] at ha; cases ha
  · unfold froz at e
    by_cases c : m.contains i = true
    · rw [if_pos c] at e
      obtain ⟨v, h1, h2⟩ := R.slot i o e
      exact ⟨v, h1, by rw [if_pos c]; exact Own.mono (fz_sub R.sub) o v _ h2 fun _ _ _ z => z⟩
    · rw [if_neg c] at e
      cases q : ε i with
      | none => rw [q] at e; cases e
      | some o1 =>
        rw [q] at e; cases e
        obtain ⟨v, h1, h2⟩ := R.slot i o1 q
        refine ⟨v, h1, ?_⟩
        try dsimp only
        rw [if_neg c]
        exact ⟨Own.rep o1 v _ h2 (fz_sub R.sub) fun a ha => fz_in (lent_in R (by simpa using c) ha), rfl⟩
  · try dsimp only
    unfold froz at e
    by_cases c : m.contains i = true
    · rw [if_pos c] at e ⊢; exact R.emp i e
    · rw [if_neg c]
  · try dsimp only
    by_cases c : m.contains i = true
    · rw [if_pos c]; exact R.nd i
    · rw [if_neg c]; exact List.nodup_nil
  · try dsimp only at ha hb
    by_cases c : m.contains i = true
    · by_cases c2 : m.contains j = true
      · rw [if_pos c] at ha
        rw [if_pos c2] at hb
        exact R.dj i j hij a ha hb
      · rw [if_neg c2] at hb; cases hb
    · rw [if_neg c] at ha; cases ha
  · try dsimp only at ha
    by_cases c : m.contains i = true
    · rw [if_pos c] at ha
      rw [fz_out (nB i c a ha)]
      exact R.fr i a ha
    · rw [if_neg c] at ha; cases ha
theorem back_ok {F H F1 H1 : Hp} {σ : L2.St} {ε ε1 : Env} {Z Z1 : Nat → List Addr} (R : RelS mg nm F H σ ε Z) (m : List Nat) (s1 : Stp (fz F H (lent σ m Z)) H (fun i => if m.contains i then Z i else []) F1 H1 Z1)
    (R1 : RelS mg nm F1 H1 σ ε1 Z1) (sc : scals m ε1 = true) :
    Stp F H Z (less F1 (lent σ m Z)) H1 (fun i => if m.contains i then Z1 i else Z i) ∧ RelS mg nm (less F1 (lent σ m Z)) H1 σ (unfroz m ε ε1) (fun i => if m.contains i then Z1 i else Z i) := by
  have sF : Sub F (less F1 (lent σ m Z)) := fun a u e => by
    unfold less
    rw [if_neg]
    · exact s1.sub _ _ (fz_sub R.sub _ _ e)
    · intro hb
      obtain ⟨i, _, hi⟩ := lent_of hb
      rw [R.fr i a hi] at e; cases e
  have inB : ∀ a ∈ lent σ m Z, ∃ u, H a = some u ∧ F1 a = some u := fun a ha => by
    obtain ⟨i, _, hi⟩ := lent_of ha
    obtain ⟨u, e⟩ := R.dom hi
    exact ⟨u, e, s1.sub _ _ (by rw [fz_in ha]; exact e)⟩
  have keepB : ∀ i, m.contains i = false → ∀ a ∈ Z i, ∀ u, H a = some u → H1 a = some u := fun i c a ha u e => by
    obtain ⟨u', e1, e2⟩ := inB a (lent_in R c ha)
    rw [e] at e1; cases e1
    exact R1.sub _ _ e2
  have n1 : ∀ i, ∀ a ∈ Z1 i, a ∉ lent σ m Z := fun i a ha hb => by
    obtain ⟨u, _, e⟩ := inB a hb
    rw [R1.fr i a ha] at e; cases e
  refine ⟨⟨sF, fun a u e hz => s1.keep a u e fun i hi => ?_, s1.dom, fun a h => ?_, fun i a ha => ?_⟩, ⟨fun a u e => R1.sub _ _ (less_some e).2, fun i o e => ?_, fun i e => ?_, fun i => ?_, fun i j hij a ha hb => ?_, fun i a ha => ?_⟩⟩
  · by_cases c : m.contains i = true
    · rw [if_pos c] at hi; exact hz i hi
    · rw [if_neg c] at hi; cases hi
  · cases e : less F1 (lent σ m Z) a with
    | none => exact absurd e h
    | some u =>
      obtain ⟨nb, e1⟩ := less_some e
      rcases s1.newF a (by rw [e1]; exact fun z => by cases z) with q | q | ⟨i, q⟩
      · rw [fz_out nb] at q; exact .inl q
      · exact .inr (.inl q)
      · by_cases c : m.contains i = true
        · rw [if_pos c] at q; exact .inr (.inr ⟨i, q⟩)
        · rw [if_neg c] at q; cases q
  · try dsimp only at ha
    by_cases c : m.contains i = true
    · rw [if_pos c] at ha
      rcases s1.newZ i a ha with q | ⟨j, q⟩
      · exact .inl q
      · by_cases c2 : m.contains j = true
        · rw [if_pos c2] at q; exact .inr ⟨j, q⟩
        · rw [if_neg c2] at q; cases q
    · rw [if_neg c] at ha; exact .inr ⟨i, ha⟩
  · unfold unfroz at e
    try dsimp only
    by_cases c : m.contains i = true
    · rw [if_pos c] at e ⊢
      obtain ⟨v, h1, h2⟩ := R1.slot i o e
      refine ⟨v, h1, ?_⟩
      have q := List.all_eq_true.mp sc i (by simpa using c)
      rw [e] at q
      cases o with
      | im d => exact ⟨Rep.scal q h2.1, h2.2⟩
      | ls ds =>
        obtain ⟨a, vs, e1, e2, e3, e4⟩ := h2
        exact ⟨a, vs, e1, e2, Reps.scal q e3, e4⟩
      | dc _ => exact h2.elim
      | lst _ => cases q
      | tup _ => cases q
    · rw [if_neg c] at e ⊢
      obtain ⟨v, h1, h2⟩ := R.slot i o e
      exact ⟨v, h1, Own.mono sF o v _ h2 (keepB i (by simpa using c))⟩
  · unfold unfroz at e
    try dsimp only
    by_cases c : m.contains i = true
    · rw [if_pos c] at e ⊢; exact R1.emp i e
    · rw [if_neg c] at e ⊢; exact R.emp i e
  · try dsimp only
    by_cases c : m.contains i = true
    · rw [if_pos c]; exact R1.nd i
    · rw [if_neg c]; exact R.nd i
  · try dsimp only at ha hb
    by_cases c : m.contains i = true
    · rw [if_pos c] at ha
      by_cases c2 : m.contains j = true
      · rw [if_pos c2] at hb
        exact R1.dj i j hij a ha hb
      · rw [if_neg c2] at hb
        exact n1 i a ha (lent_in R (by simpa using c2) hb)
    · rw [if_neg c] at ha
      by_cases c2 : m.contains j = true
      · rw [if_pos c2] at hb
        exact n1 j a hb (lent_in R (by simpa using c) ha)
      · rw [if_neg c2] at hb
        exact R.dj i j hij a ha hb
  · try dsimp only at ha
    by_cases c : m.contains i = true
    · rw [if_pos c] at ha
      unfold less
      rw [if_neg (n1 i a ha)]
      exact R1.fr i a ha
    · rw [if_neg c] at ha
      unfold less
      exact if_pos (lent_in R (by simpa using c) ha)

theorem bor_tE {m : List Nat} {e : Ex} : ∀ σ H Q, tE mg P (.bor m e) σ H Q → tE mg P e σ H Q := by
  rintro σ H Q ⟨F, Z, ε, R, h⟩
  obtain ⟨s0, R0⟩ := lent_ok R m
  refine ⟨_, _, froz m ε, R0, ?_⟩
  unfold evE at h
  cases q : evE P.cl P.sg e (froz m ε) with
  | ok o ε1 =>
    rw [q] at h
    cases o with
    | im d =>
      dsimp only at h
      by_cases c : (d.scal && scals m ε1) = true
      · rw [if_pos c] at h
        simp only [Bool.and_eq_true] at c
        intro F1 H1 Z1 v S s1 R1 ow t
        obtain ⟨s2, R2⟩ := back_ok R m s1 R1 c.2
        obtain ⟨rp, rfl⟩ := ow
        exact h _ H1 _ v [] s2 R2 ⟨Rep.scal c.1 rp, rfl⟩ Tmp.nil
      · rw [if_neg c] at h; exact h.elim
    | _ => exact h.elim
  | exc c v ε1 =>
    rw [q] at h
    exact xW.step s0 h
  | bad => rw [q] at h; exact h.elim
theorem bor_tT {m : List Nat} {e : Ex} : ∀ σ H Q, tT mg P (.bor m e) σ H Q → tT mg P e σ H Q := by
  rintro σ H Q ⟨F, Z, ε, R, h⟩
  obtain ⟨s0, R0⟩ := lent_ok R m
  refine ⟨_, _, froz m ε, R0, ?_⟩
  unfold evT at h
  cases q : evT P.cl P.sg e (froz m ε) with
  | ok k ε1 =>
    rw [q] at h
    dsimp only at h
    by_cases c : scals m ε1 = true
    · rw [if_pos c] at h
      intro F1 H1 Z1 s1 R1
      obtain ⟨s2, R2⟩ := back_ok R m s1 R1 c
      exact h _ H1 _ s2 R2
    · rw [if_neg c] at h; exact h.elim
  | exc c v ε1 =>
    rw [q] at h
    exact xW.step s0 h
  | bad => rw [q] at h; exact h.elim
/-- the kept value of an exception -/
def tVal (te : TE) : TE := fun σ H Q => te σ H fun x H1 => ∃ (a dx C : Addr) (oe : Obj) (w : V), x = .ref a ∧ H1 a = some (.ext fun h => h.get? a = some oe) ∧ ZE (.ref C) dx oe ∧ H1 dx = some (.xd [(("value" : Str), w)]) ∧ (∃ c, mg (nm.cls c) = some (.ref C)) ∧ Q w H1
theorem attr_tVal {e : Ex} : ∀ σ H Q, tE mg P (.attr e) σ H Q → tVal (mg := mg) (nm := P.nm) (tE mg P e) σ H Q := by
  rintro σ H Q ⟨F, Z, ε, R, h⟩
  unfold evE at h
  refine ⟨F, Z, ε, R, (After.bind h).imp (fun o ε1 k F1 H1 Z1 v S s1 R1 ow t1 => ?_) fun _ _ _ z => z⟩
  split at k
  · rename_i c d
    obtain ⟨⟨a, oe, dx, w, C, rfl, e2, e3, e4, e5, e6⟩, rfl⟩ := ow
    exact ⟨a, dx, C, oe, w, rfl, R1.sub _ _ e2, e4, R1.sub _ _ e5, ⟨c, e3⟩, k F1 H1 Z1 w [] s1 R1 ⟨e6, rfl⟩ Tmp.nil⟩
  · exact k.elim
end
end Ev
end
section
set_option linter.all false
set_option maxRecDepth 100000
set_option maxHeartbeats 4000000
/-! Keyword calls; calls of a def that a name holds. -/
namespace Ev
open PySem PySem.Spec PyProof.Rows L2
def noStar : Expr → Bool
  | .Starred _ _ => false
  | _ => true
theorem star_cons {e : Expr} {es : List Expr} {env : PySem.Env} (h : noStar e = true) : starEach (e :: es) env = (false, eval e env) :: starEach es env := by
  cases e <;> first
    | rfl
    | cases h
theorem star_plain {env : PySem.Env} {pos : Pos} : ∀ {es : List Expr}, es.all noStar = true → (backTo pos (starEach es env)).any (·.1) = false
  | [], _ => rfl
  | e :: es, h => by
    simp only [List.all_cons, Bool.and_eq_true] at h
    rw [star_cons h.1]
    have q := star_plain (env := env) (pos := pos) h.2
    show (false || (backTo pos (starEach es env)).any (·.1)) = false
    rw [q]; rfl
theorem kw_all {env : PySem.Env} {pos : Pos} : ∀ {kws : List Keyword} {ks : List Str}, kws.map (·.arg) = ks.map some →
    (backToKw pos (keywordEach kws env)).all (·.1.isSome) = true ∧ (backToKw pos (keywordEach kws env)).filterMap (·.1) = ks ∧ (backToKw pos (keywordEach kws env)).any (·.1.isNone) = false
  | [], ks, h => by
    cases ks with
    | nil => exact ⟨rfl, rfl, rfl⟩
    | cons _ _ => cases h
  | ⟨a, e, p⟩ :: kws, ks, h => by
    cases ks with
    | nil => cases h
    | cons k ks =>
      simp only [List.map_cons, List.cons.injEq] at h
      obtain ⟨h1, h2⟩ := h
      subst h1
      obtain ⟨q1, q2, q3⟩ := kw_all (env := env) (pos := pos) h2
      refine ⟨?_, ?_, ?_⟩
      · show (true && (backToKw pos (keywordEach kws env)).all (·.1.isSome)) = true
        rw [q1]; rfl
      · show k :: (backToKw pos (keywordEach kws env)).filterMap (·.1) = _
        rw [q2]
      · show (false || (backToKw pos (keywordEach kws env)).any (·.1.isNone)) = false
        rw [q3]; rfl
section
variable {X : Cx} {P : Pm} {T : Tab} {n : Nat} {pn : Nat → List Str} {kt : Nat → List (List Str × List Nat)} {f : Nat} {x : Str} {p pos : Pos} {e : Expr} {es : List Expr} {ta : TA} {mg : Str → Option Value}

/-- each operand's own addresses -/
theorem HnRs.blocks {F H : Hp} {σ : L2.St} : ∀ {hs : List Hn} {vs : List V} {S : List Addr}, HnRs mg P F H σ hs vs S → S.Nodup →
    ∃ B : Nat → List Addr, (∀ (i : Nat) h, hs[i]? = some h → ∃ v, vs[i]? = some v ∧ HnR mg P F H σ h v (B i)) ∧ (∀ i : Nat, hs[i]? = none → vs[i]? = none) ∧ (∀ i, (B i).Nodup ∧ ∀ a ∈ B i, a ∈ S) ∧ ∀ i j, i ≠ j → ∀ a ∈ B i, a ∉ B j
  | [], vs, S, r, nd => by
    obtain ⟨rfl, rfl⟩ := r
    exact ⟨fun _ => [], fun i h e => by simp at e, fun i _ => by simp, fun i => ⟨List.nodup_nil, fun a h => by cases h⟩, fun i j _ a h => by cases h⟩
  | h :: hs, vs, S, r, nd => by
    obtain ⟨v, w, S1, S2, rfl, r1, r2, rfl⟩ := r
    obtain ⟨n1, n2, n3⟩ := List.nodup_append.mp nd
    obtain ⟨B, b1, b2, b3, b4⟩ := HnRs.blocks r2 n2
    refine ⟨fun i => match i with
      | 0 => S1
      | i + 1 => B i, fun i h' e => ?_, fun i e => ?_, fun i => ?_, fun i j hij a ha hb => ?_⟩
    · cases i with
      | zero => simp at e; subst e; exact ⟨v, rfl, r1⟩
      | succ i =>
        obtain ⟨v', e1, e2⟩ := b1 i h' (by simpa using e)
        exact ⟨v', by simpa using e1, e2⟩
    · cases i with
      | zero => simp at e
      | succ i => simpa using b2 i (by simpa using e)
    · cases i with
      | zero => exact ⟨n1, fun a h => List.mem_append_left _ h⟩
      | succ i => exact ⟨(b3 i).1, fun a h => List.mem_append_right _ ((b3 i).2 a h)⟩
    · cases i with
      | zero =>
        cases j with
        | zero => exact hij rfl
        | succ j => exact n3 a ha a ((b3 j).2 a hb) rfl
      | succ i =>
        cases j with
        | zero => exact n3 a hb a ((b3 i).2 a ha) rfl
        | succ j => exact b4 i j (fun z => hij (by rw [z])) a ha hb
theorem HnRs.pick {F H : Hp} {σ : L2.St} {hs : List Hn} {vs : List V} {S : List Addr} (r : HnRs mg P F H σ hs vs S) (nd : S.Nodup) : ∀ {ks : List Nat}, ks.Nodup →
    ∃ S', HnRs mg P F H σ (ks.filterMap (hs[·]?)) (ks.filterMap (vs[·]?)) S' ∧ S'.Nodup ∧ ∀ a ∈ S', a ∈ S := by
  obtain ⟨B, b1, b2, b3, b4⟩ := r.blocks nd
  have main : ∀ ks : List Nat, ks.Nodup → ∃ S', HnRs mg P F H σ (ks.filterMap (hs[·]?)) (ks.filterMap (vs[·]?)) S' ∧ S'.Nodup ∧ ∀ a ∈ S', ∃ k ∈ ks, a ∈ B k := by
    intro ks
    induction ks with
    | nil => exact fun _ => ⟨[], ⟨rfl, rfl⟩, List.nodup_nil, fun a h => by cases h⟩
    | cons k ks ih =>
      intro hn
      obtain ⟨hk, hn⟩ := List.nodup_cons.mp hn
      obtain ⟨S', r', n', m'⟩ := ih hn
      cases e : hs[k]? with
      | none =>
        have e2 := b2 k e
        refine ⟨S', ?_, n', fun a h => ?_⟩
        · rw [List.filterMap_cons_none e, List.filterMap_cons_none e2]; exact r'
        · obtain ⟨j, hj, q⟩ := m' a h
          exact ⟨j, List.mem_cons_of_mem _ hj, q⟩
      | some h =>
        obtain ⟨v, e2, rv⟩ := b1 k h e
        refine ⟨B k ++ S', ?_, List.nodup_append.mpr ⟨(b3 k).1, n', fun a ha b hb z => ?_⟩, fun a h => ?_⟩
        · rw [List.filterMap_cons_some e, List.filterMap_cons_some e2]
          exact ⟨v, _, B k, S', rfl, rv, r', rfl⟩
        · subst z
          obtain ⟨j, hj, q⟩ := m' a hb
          exact b4 k j (fun z => hk (z ▸ hj)) a ha q
        · rcases List.mem_append.mp h with q | q
          · exact ⟨k, List.mem_cons_self, q⟩
          · obtain ⟨j, hj, q⟩ := m' a q
            exact ⟨j, List.mem_cons_of_mem _ hj, q⟩
  intro ks hn
  obtain ⟨S', r', n', m'⟩ := main ks hn
  exact ⟨S', r', n', fun a h => by
    obtain ⟨k, _, q⟩ := m' a h
    exact (b3 k).2 a q⟩

def tCalk (T : Tab) (n f : Nat) (ks : List Nat) (mg : Str → Option Value) (P : Pm) (ta : TA) : TE := fun σ H Q => ta σ H fun vs H1 => spEv mg P.nm T n f (ks.filterMap (vs[·]?)) H1 Q (fun cls d H' => P.W cls d σ H')
theorem pe_calk (G : GX X P T n pn kt) {fd : FnDef} {q : List Str × List Nat} {kws : List Keyword} (hT : T f = some fd) (hq : q ∈ kt f) (hkw : kws.map (·.arg) = q.1.map some) (hg : L2.Gl X (P.nm.fn f)) (hd : (P.nm.fn f == ("__debug__" : Str)) = false) (ha : PK X kws ta)
    (hlen : ∀ σ H Q, ta σ H Q → ta σ H (fun vs H1 => vs.length = q.1.length ∧ Q vs H1)) : PE X (.Call (.Name (P.nm.fn f) p) [] kws pos) (tCalk T n f q.2 X.mg P ta) := by
  obtain ⟨a, fo, hm, hk, F, hl, hb, hkk⟩ := G.fns f fd hT
  obtain ⟨_, hb2⟩ := hkk q hq
  obtain ⟨k1, k2, k3⟩ := kw_all (env := X.env) (pos := pos) hkw
  refine ⟨fun pins s σ H Q I h => ?_⟩
  refine wpAny_Call_Name_kw (ld_glob I hg hm ?_ hd)
  refine PySem.W.callWith_KW0 (h₀ := X.base) I.ok.mod.kin hk k1 (thn (ha.run pos pins s σ H _ I (hlen σ H _ h)) fun ws s2 ⟨zs, H2, I2, rz, zl, q2⟩ => ⟨I2.kIn, ?_⟩) (by rw [k3]; rfl)
  rw [k2]
  have wl : ws.length = q.1.length := by rw [← rz.length]; exact zl
  have rz2 : Vals (q.2.filterMap (zs[·]?)) (q.2.filterMap (ws[·]?)) := by
    generalize q.2 = ks
    induction ks with
    | nil => exact .nil
    | cons k ks ih =>
      cases e : zs[k]? with
      | none =>
        have e2 : ws[k]? = none := by rw [List.getElem?_eq_none_iff] at e ⊢; rw [← rz.length]; exact e
        rw [List.filterMap_cons_none e, List.filterMap_cons_none e2]; exact ih
      | some v =>
        obtain ⟨u, e2, r2⟩ := rz.get e
        rw [List.filterMap_cons_some e, List.filterMap_cons_some e2]
        exact .cons r2 ih
  refine wpAny_call (codeAny_mono (run_fnG F G.room G.gd (.of_eq (hb2 ws wl)) (passAt G.tk σ) I2 rz2 q2) fun r s' hq => ?_)
  cases r with
  | error e => exact hq
  | ok fl => cases fl <;> exact hq
/-- .. the operands' number is known -/
def tHsL (mg : Str → Option Value) (P : Pm) (es : List Ex) : TA := fun σ H Q => tHs mg P es σ H Q
theorem hnrs_len {F H : Hp} {σ : L2.St} : ∀ {hs : List Hn} {vs : List V} {S : List Addr}, HnRs mg P F H σ hs vs S → vs.length = hs.length
  | [], vs, S, r => by obtain ⟨rfl, rfl⟩ := r; rfl
  | h :: hs, vs, S, r => by
    obtain ⟨v, w, S1, S2, rfl, r1, r2, rfl⟩ := r
    simp [hnrs_len r2]
theorem evHs_len {cl : Nat → List O → COut} {sg : Nat → List Nat} : ∀ (es : List Ex) (ε : Env) (hs : List Hn) (ε' : Env), evHs cl sg es ε = .ok hs ε' → hs.length = es.length
  | [], ε, hs, ε', e => by unfold evHs at e; cases e; rfl
  | x :: es, ε, hs, ε', e => by
    unfold evHs at e
    cases q : evH cl sg x ε with
    | ok h ε1 =>
      rw [q] at e
      unfold Res.bind at e
      dsimp only at e
      cases q2 : evHs cl sg es ε1 with
      | ok hs2 ε2 =>
        rw [q2] at e
        dsimp only at e
        cases e
        rw [List.length_cons, List.length_cons, evHs_len es ε1 hs2 _ q2]
      | exc _ _ _ => rw [q2] at e; cases e
      | bad => rw [q2] at e; cases e
    | exc _ _ _ => rw [q] at e; cases e
    | bad => rw [q] at e; cases e
theorem tHs_len {es : List Ex} : ∀ σ H Q, tHs mg P es σ H Q → tHs mg P es σ H (fun vs H1 => vs.length = es.length ∧ Q vs H1) := by
  rintro σ H Q ⟨F, Z, ε, R, h⟩
  refine ⟨F, Z, ε, R, ?_⟩
  cases q : evHs P.cl P.sg es ε with
  | ok hs ε' =>
    rw [q] at h
    have l := evHs_len es ε hs ε' q
    intro F' H' Z' vs S s r o t
    exact ⟨by rw [hnrs_len o, l], h F' H' Z' vs S s r o t⟩
  | exc c v ε' => rw [q] at h; exact h
  | bad => rw [q] at h; exact h
theorem calk_of (hcl : P.cl = callN T n) (hsg : P.sg = T.sg) (hone : ∀ f fd, T f = some fd → fd.mp.length ≤ 1) {es : List Ex} {ks : List Nat} (nd : ks.Nodup) : ∀ σ H Q, tE mg P (.callk f es ks) σ H Q → tCalk T n f ks mg P (tHs mg P es) σ H Q := by
  rintro σ H Q ⟨F, Z, ε, R, h⟩
  unfold evE at h
  refine ⟨F, Z, ε, R, (After.bind h).imp (fun hs ε1 k F1 H1 Z1 vs S s1 r1 o1 t1 => ?_) fun _ _ _ z => z⟩
  obtain ⟨S', o2, n2, m2⟩ := HnRs.pick o1 t1.nd nd
  exact call_ok hcl hsg hone s1 r1 o2 ⟨n2, fun a h => t1.fr a (m2 a h), fun a h => t1.dj a (m2 a h), fun a h => t1.new a (m2 a h)⟩ k

/-- a call of the def that a name holds -/
def tCalv (T : Tab) (n i : Nat) (mg : Str → Option Value) (P : Pm) (ta : TA) : TE := fun σ H Q => ∃ f a, σ[i]? = some (some (.ref a)) ∧ mg (P.nm.fn f) = some (.ref a) ∧ ta σ H fun vs H1 => spEv mg P.nm T n f vs H1 Q (fun cls d H' => P.W cls d σ H')
theorem pe_calv (G : GX X P T n pn kt) {i : Nat} (hN : X.N[i]? = some x) (hv : Vis X.env.scope x) (hd : (x == ("__debug__" : Str)) = false) (hcd : (x == ("__classdict__" : Str)) = false) (ha : PA X (e :: es) ta)
    (he : starEach (e :: es) X.env = (false, eval e X.env) :: starEach es X.env) (hpl : (backTo pos (starEach es X.env)).any (·.1) = false) : PE X (.Call (.Name x p) (e :: es) [] pos) (tCalv T n i X.mg P ta) := by
  refine ⟨fun pins s σ H Q I h => ?_⟩
  obtain ⟨f, a, hs, hm, ht⟩ := h
  have hk := G.tot f a hm
  refine wpAny_Call_Name_kw (thn ((pe_var (pos := p) hN hv hd hcd).run pins s σ H (fun v H1 => v = .ref a ∧ H1 = H) I ⟨.ref a, hs, rfl, rfl⟩) fun u s1 ⟨v, H1, I1, r1, q1⟩ => ?_)
  obtain ⟨rfl, rfl⟩ := q1
  cases r1
  refine PySem.W.callWith_K (h₀ := X.base) I.ok.mod.kin hk (thn (ha.run pos pins s1 σ _ _ I1 ht) fun us s2 ⟨vs, H2, I2, r, q⟩ => ⟨I2.kIn, ?_⟩) he hpl
  obtain ⟨fd, hT⟩ := spEv_some q
  obtain ⟨a', fo, hm', _, F, hl, hb, _⟩ := G.fns f fd hT
  rw [hm] at hm'; cases hm'
  have hlen : us.length = (pn f).length := by rw [← r.length]; exact F.len _ _ _ _ q
  refine wpAny_call (codeAny_mono (run_fnG F G.room G.gd (.of_eq (hb us hlen)) (passAt G.tk σ) I2 r q) fun r s' hq => ?_)
  cases r with
  | error e => exact hq
  | ok fl => cases fl <;> exact hq
theorem calv_of (hcl : P.cl = callN T n) (hsg : P.sg = T.sg) (hone : ∀ f fd, T f = some fd → fd.mp.length ≤ 1) {es : List Ex} {i : Nat} : ∀ σ H Q, tE mg P (.callv i es) σ H Q → tCalv T n i mg P (tHs mg P es) σ H Q := by
  rintro σ H Q ⟨F, Z, ε, R, h⟩
  unfold evE at h
  split at h
  · rename_i f ei
    obtain ⟨v, hv, ow⟩ := R.slot i _ ei
    obtain ⟨⟨a, rfl, hm⟩, _⟩ := ow
    split at h
    · refine ⟨f, a, hv, hm, F, Z, ε, R, (After.bind h).imp (fun hs ε1 k F1 H1 Z1 vs S s1 r1 o1 t1 => ?_) fun _ _ _ z => z⟩
      exact call_ok hcl hsg hone s1 r1 o1 t1 k
    · exact h.elim
  · exact h.elim
end
end Ev
end
section
set_option linter.all false
set_option maxRecDepth 100000
set_option maxHeartbeats 4000000
/-! Targets, statements. -/
namespace Ev
open PySem PySem.Spec PyProof.Rows L2
theorem PE.ln {X : Cx} {e : Expr} {t t' : TE} (h : PE X e t) (i : ∀ σ H Q, σ.length = X.N.length → t' σ H Q → t σ H Q) : PE X e t' := ⟨fun pins s σ H Q I q => h.run pins s σ H Q I (i σ H Q I.len q)⟩
theorem PS.ln {X : Cx} {e : Stmt} {t t' : TS} (h : PS X e t) (i : ∀ D σ H, σ.length = X.N.length → t' D σ H → t D σ H) : PS X e t' := ⟨fun pins s σ H D I q => h.run pins s σ H D I (i D σ H I.len q)⟩
theorem PSs.ln {X : Cx} {e : List Stmt} {t t' : TS} (h : PSs X e t) (i : ∀ D σ H, σ.length = X.N.length → t' D σ H → t D σ H) : PSs X e t' := ⟨fun pins s σ H D I q => h.run pins s σ H D I (i D σ H I.len q)⟩

structure Kp (mp : List Nat) (σ σ' : L2.St) : Prop where
  len : σ'.length = σ.length
  on : ∀ i ∈ mp, σ'[i]? = σ[i]?
theorem Kp.refl {mp : List Nat} {σ : L2.St} : Kp mp σ σ := ⟨rfl, fun _ _ => rfl⟩
theorem Kp.trans {mp : List Nat} {a b c : L2.St} (h : Kp mp a b) (k : Kp mp b c) : Kp mp a c := ⟨k.len.trans h.len, fun i hi => (k.on i hi).trans (h.on i hi)⟩

mutual
def Tg.lim : Tg → Nat → Bool
  | .name i, n => decide (i < n)
  | .tup ts, n => Tg.lims ts n
def Tg.lims : List Tg → Nat → Bool
  | [], _ => true
  | t :: ts, n => Tg.lim t n && Tg.lims ts n
end
mutual
def tgG (K : W.Frag) : Tg → TG
  | .name i => gName i
  | .tup ts => gTup K ts.length (tgGs K ts)
def tgGs (K : W.Frag) : List Tg → TGs
  | [] => gNil
  | t :: ts => gCons (tgG K t) (tgGs K ts)
end

section
variable {X : Cx} {P : Pm} {nm : Nm} {mg : Str → Option Value} {K : W.Frag} {mp : List Nat}
theorem bindN_ok {F0 H0 F H : Hp} {Z0 Z : Nat → List Addr} {σ : L2.St} {ε ε' : Env} {i : Nat} {o : O} {v : V} {S S' : List Addr} {G : L2.St → Hp → Prop}
    (s : Stp F0 H0 Z0 F H Z) (R : RelS mg nm F H σ ε Z) (ow : Own mg nm F H o v S) (t : Tmp H0 Z0 F Z (S ++ S')) (e : bindT mp (.name i) o ε = some ε') (hb : (Tg.name i).lim σ.length = true)
    (k : ∀ Z' σ', Stp F0 H0 Z0 F H Z' → RelS mg nm F H σ' ε' Z' → Kp mp σ σ' → Tmp H0 Z0 F Z' S' → G σ' H) : G (σ.set i (some v)) H := by
  have hi : i < σ.length := by unfold Tg.lim at hb; simpa using hb
  unfold bindT at e
  by_cases c : mp.contains i = true
  · rw [if_pos c] at e; cases e
  · rw [if_neg c] at e; cases e
    have t1 := t.sub (List.sublist_append_left S S')
    have t2 := t.sub (List.sublist_append_right S S')
    have dis : ∀ a ∈ S', a ∉ S := fun a h2 h1 => (List.nodup_append.mp t.nd).2.2 a h1 a h2 rfl
    refine k (fun j => if j = i then S else Z j) _ ⟨s.sub, s.keep, s.dom, s.newF, fun j a ha => ?_⟩ ⟨R.sub, fun j o' e => ?_, fun j e => ?_, fun j => ?_, fun j l hjl a ha hb => ?_, fun j a ha => ?_⟩ ⟨by simp, fun j hj => ?_⟩ ⟨t2.nd, t2.fr, fun a ha j hj => ?_, t2.new⟩
    · by_cases q : j = i
      · rw [if_pos q] at ha; exact t1.new a ha
      · rw [if_neg q] at ha; exact s.newZ j a ha
    · unfold up at e
      by_cases q : j = i
      · subst q
        rw [if_pos rfl] at e; cases e
        exact ⟨v, by simp [hi], by rw [if_pos rfl]; exact ow⟩
      · rw [if_neg q] at e ⊢
        obtain ⟨w, h1, h2⟩ := R.slot j o' e
        exact ⟨w, by rw [List.getElem?_set_ne (Ne.symm q)]; exact h1, h2⟩
    · unfold up at e
      by_cases q : j = i
      · rw [if_pos q] at e; cases e
      · rw [if_neg q] at e ⊢; exact R.emp j e
    · by_cases q : j = i
      · rw [if_pos q]; exact t1.nd
      · rw [if_neg q]; exact R.nd j
    · by_cases q : j = i
      · rw [if_pos q] at ha
        rw [if_neg (fun z => hjl (q.trans z.symm))] at hb
        exact t1.dj a ha l hb
      · rw [if_neg q] at ha
        by_cases q2 : l = i
        · rw [if_pos q2] at hb; exact t1.dj a hb j ha
        · rw [if_neg q2] at hb; exact R.dj j l hjl a ha hb
    · by_cases q : j = i
      · rw [if_pos q] at ha; exact t1.fr a ha
      · rw [if_neg q] at ha; exact R.fr j a ha
    · rw [List.getElem?_set_ne]
      intro z; subst z
      exact c (by simpa using hj)
    · by_cases q : j = i
      · rw [if_pos q] at hj; exact dis a ha hj
      · rw [if_neg q] at hj; exact t2.dj a ha j hj
theorem owns_ims {F H : Hp} : ∀ {ds : List D} {vs : List V}, Reps mg nm F ds vs → Owns mg nm F H (ds.map O.im) vs []
  | [], vs, h => ⟨h, rfl⟩
  | d :: ds, vs, h => by
    obtain ⟨v, r, e, h1, h2⟩ := h
    exact ⟨v, r, [], [], e, ⟨h1, rfl⟩, owns_ims h2, rfl⟩
mutual
theorem bindT_ok {F0 H0 : Hp} {Z0 : Nat → List Addr} : ∀ (tg : Tg) {F H : Hp} {Z : Nat → List Addr} {σ : L2.St} {ε ε' : Env} {o : O} {v : V} {S S' : List Addr} {G : L2.St → Hp → Prop},
    Stp F0 H0 Z0 F H Z → RelS mg nm F H σ ε Z → Own mg nm F H o v S → Tmp H0 Z0 F Z (S ++ S') → bindT mp tg o ε = some ε' → tg.lim σ.length = true →
    (∀ Z' σ', Stp F0 H0 Z0 F H Z' → RelS mg nm F H σ' ε' Z' → Kp mp σ σ' → Tmp H0 Z0 F Z' S' → G σ' H) → tgG K tg v σ H G
  | .name i, F, H, Z, σ, ε, ε', o, v, S, S', G, s, R, ow, t, e, hb, k => by
    unfold tgG
    exact bindN_ok s R ow t e hb k
  | .tup ts, F, H, Z, σ, ε, ε', o, v, S, S', G, s, R, ow, t, e, hb, k => by
    unfold Tg.lim at hb
    unfold tgG
    cases o with
    | im d =>
      cases d with
      | tup ds =>
        unfold bindT at e
        obtain ⟨⟨a, vs, rfl, e2, r⟩, rfl⟩ := ow
        have ow2 : Owns mg nm F H (ds.map O.im) vs [] := owns_ims r
        exact ⟨a, vs, rfl, .inl (.inl (R.sub _ _ e2)), (Owns.length ow2).trans (bindTs_len ts e).symm, bindTs_ok ts s R ow2 t e hb k⟩
      | _ => unfold bindT at e; cases e
    | tup os =>
      unfold bindT at e
      obtain ⟨a, vs, S1, rfl, e2, ow2, rfl⟩ := ow
      exact ⟨a, vs, rfl, .inl (.inl e2), (Owns.length ow2).trans (bindTs_len ts e).symm, bindTs_ok ts s R ow2 (t.sub (List.sublist_cons_self a _)) e hb k⟩
    | ls _ => unfold bindT at e; cases e
    | lst _ => unfold bindT at e; cases e
    | dc _ => unfold bindT at e; cases e
theorem bindTs_ok {F0 H0 : Hp} {Z0 : Nat → List Addr} : ∀ (ts : List Tg) {F H : Hp} {Z : Nat → List Addr} {σ : L2.St} {ε ε' : Env} {os : List O} {vs : List V} {S S' : List Addr} {G : L2.St → Hp → Prop},
    Stp F0 H0 Z0 F H Z → RelS mg nm F H σ ε Z → Owns mg nm F H os vs S → Tmp H0 Z0 F Z (S ++ S') → bindTs mp ts os ε = some ε' → Tg.lims ts σ.length = true →
    (∀ Z' σ', Stp F0 H0 Z0 F H Z' → RelS mg nm F H σ' ε' Z' → Kp mp σ σ' → Tmp H0 Z0 F Z' S' → G σ' H) → tgGs K ts vs σ H G
  | [], F, H, Z, σ, ε, ε', os, vs, S, S', G, s, R, ow, t, e, hb, k => by
    unfold tgGs
    cases os with
    | nil =>
      unfold bindTs at e; cases e
      obtain ⟨rfl, rfl⟩ := ow
      exact ⟨rfl, k Z σ s R Kp.refl t⟩
    | cons _ _ => unfold bindTs at e; cases e
  | tg :: ts, F, H, Z, σ, ε, ε', os, vs, S, S', G, s, R, ow, t, e, hb, k => by
    unfold tgGs
    cases os with
    | nil => unfold bindTs at e; cases e
    | cons o os =>
      unfold bindTs at e
      obtain ⟨v, r, S1, S2, rfl, ow1, ow2, rfl⟩ := ow
      unfold Tg.lims at hb
      simp only [Bool.and_eq_true] at hb
      cases q : bindT mp tg o ε with
      | none => rw [q] at e; cases e
      | some ε1 =>
        rw [q] at e
        dsimp only at e
        rw [List.append_assoc] at t
        refine ⟨v, r, rfl, bindT_ok tg (S' := S2 ++ S') s R ow1 t q hb.1 fun Z1 σ1 s1 R1 k1 t1 => ?_⟩
        exact bindTs_ok ts s1 R1 ow2 t1 e (by rw [k1.len]; exact hb.2) fun Z2 σ2 s2 R2 k2 t2 => k Z2 σ2 s2 R2 (k1.trans k2) t2
theorem bindTs_len : ∀ (ts : List Tg) {os : List O} {ε ε' : Env}, bindTs mp ts os ε = some ε' → ts.length = os.length
  | [], os, ε, ε', e => by
    cases os with
    | nil => rfl
    | cons _ _ => unfold bindTs at e; cases e
  | tg :: ts, os, ε, ε', e => by
    cases os with
    | nil => unfold bindTs at e; cases e
    | cons o os =>
      unfold bindTs at e
      cases q : bindT mp tg o ε with
      | none => rw [q] at e; cases e
      | some ε1 =>
        rw [q] at e
        simp [bindTs_len ts e]
end

/-! ### statements -/
def kS (mg : Str → Option Value) (P : Pm) (σ : L2.St) (F H : Hp) (Z : Nat → List Addr) (D : Ends) : Fl → Env → Prop
  | .next, ε' => ∀ F' H' Z' σ', Stp F H Z F' H' Z' → RelS mg P.nm F' H' σ' ε' Z' → Kp P.mp σ σ' → D.nx σ' H'
  | .ret o, ε' => ∀ F' H' Z' σ' ε'' v S, Stp F H Z F' H' Z' → RelS mg P.nm F' H' σ' ε'' Z' → Kp P.mp σ σ' → (∀ i ∈ P.mp, ε'' i = ε' i) → Own mg P.nm F' H' o v S → Tmp H Z F' Z' S → D.rt v H'
def xS (mg : Str → Option Value) (P : Pm) (σ : L2.St) (F H : Hp) (Z : Nat → List Addr) : Nat → D → Env → Prop := fun c d ε' => ∀ F' H' Z' σ' C dx v, Stp F H Z F' H' Z' → RelS mg P.nm F' H' σ' ε' Z' → Kp P.mp σ σ' → mg (P.nm.cls c) = some (.ref C) → H dx = none → H' dx = some (.xd [(("value" : Str), v)]) → Rep mg P.nm F' d v → P.W (.ref C) (some dx) σ' H'
def tSR (mg : Str → Option Value) (P : Pm) (r : Env → Res Fl) : TS := fun D σ H => ∃ F Z ε, RelS mg P.nm F H σ ε Z ∧ After (r ε) (kS mg P σ F H Z D) (xS mg P σ F H Z)
def tSt (mg : Str → Option Value) (P : Pm) (s : St) : TS := tSR mg P (evS P.cl P.sg P.mp s)
def tSs (mg : Str → Option Value) (P : Pm) (ss : List St) : TS := tSR mg P (evSs P.cl P.sg P.mp ss)

theorem xS.w {σ : L2.St} {F H : Hp} {Z : Nat → List Addr} {c : Nat} {d : D} {ε : Env} (h : xS mg P σ F H Z c d ε) : xW mg P σ F H Z c d ε :=
  fun F' H' Z' C dx v s r hC h0 hx rp => h F' H' Z' σ C dx v s r Kp.refl hC h0 hx rp
theorem xS.step {σ σ1 : L2.St} {F H F1 H1 : Hp} {Z Z1 : Nat → List Addr} {c : Nat} {d : D} {ε : Env} (s : Stp F H Z F1 H1 Z1) (kp : Kp P.mp σ σ1) (h : xS mg P σ F H Z c d ε) : xS mg P σ1 F1 H1 Z1 c d ε :=
  fun F' H' Z' σ' C dx v s' r k' hC h0 hx rp => h F' H' Z' σ' C dx v (s.trans s') r (kp.trans k') hC (s.dom dx h0) hx rp
theorem kS.step {σ σ1 : L2.St} {F H F1 H1 : Hp} {Z Z1 : Nat → List Addr} {D : Ends} {f : Fl} {ε : Env} (s : Stp F H Z F1 H1 Z1) (kp : Kp P.mp σ σ1) (h : kS mg P σ F H Z D f ε) : kS mg P σ1 F1 H1 Z1 D f ε := by
  cases f with
  | next => exact fun F' H' Z' σ' s' r k' => h F' H' Z' σ' (s.trans s') r (kp.trans k')
  | ret o => exact fun F' H' Z' σ' ε'' v S s' r k' hm ow t => h F' H' Z' σ' ε'' v S (s.trans s') r (kp.trans k') hm ow (t.pre s)
theorem ss_nil : ∀ D σ H, tSs mg P [] D σ H → tNext D σ H := by
  rintro D σ H ⟨F, Z, ε, R, h⟩
  unfold evSs at h
  exact h F H Z σ Stp.refl R Kp.refl
theorem ss_cons {s : St} {ss : List St} : ∀ D σ H, tSs mg P (s :: ss) D σ H → tSeq (tSt mg P s) (tSs mg P ss) D σ H := by
  rintro D σ H ⟨F, Z, ε, R, h⟩
  refine ⟨F, Z, ε, R, ?_⟩
  unfold evSs at h
  cases q : evS P.cl P.sg P.mp s ε with
  | ok f ε1 =>
    rw [q] at h
    cases f with
    | next =>
      dsimp only at h
      intro F1 H1 Z1 σ1 s1 R1 k1
      exact ⟨F1, Z1, ε1, R1, h.imp (fun f ε' k => k.step s1 k1) fun _ _ _ x => x.step s1 k1⟩
    | ret o => exact h
  | exc c v ε1 => rw [q] at h; exact h
  | bad => rw [q] at h; exact h.elim
theorem s_pass : ∀ D σ H, tSt mg P .pass D σ H → tNext D σ H := by
  rintro D σ H ⟨F, Z, ε, R, h⟩
  unfold evS at h
  exact h F H Z σ Stp.refl R Kp.refl
theorem s_exp {e : Ex} : ∀ D σ H, tSt mg P (.exp e) D σ H → tDrop (tE mg P e) D σ H := by
  rintro D σ H ⟨F, Z, ε, R, h⟩
  unfold evS at h
  exact ⟨F, Z, ε, R, (After.bind h).imp (fun o ε1 k F1 H1 Z1 v S s1 R1 ow t => k F1 H1 Z1 σ s1 R1 Kp.refl) fun _ _ _ x => x.w⟩
theorem s_retN : ∀ D σ H, tSt mg P .retN D σ H → tRetN D σ H := by
  rintro D σ H ⟨F, Z, ε, R, h⟩
  unfold evS at h
  exact h F H Z σ ε .non [] Stp.refl R Kp.refl (fun _ _ => rfl) ⟨rfl, rfl⟩ Tmp.nil
theorem s_ret {e : Ex} (he : ∀ i, e ≠ .var i) : ∀ D σ H, tSt mg P (.ret e) D σ H → tRet (tE mg P e) D σ H := by
  rintro D σ H ⟨F, Z, ε, R, h⟩
  have key : evS P.cl P.sg P.mp (.ret e) ε = (evE P.cl P.sg e ε).bind fun o ε1 => .ok (.ret o) ε1 := by
    cases e with
    | var i => exact absurd rfl (he i)
    | _ => rw [evS]; intro i z; cases z
  rw [key] at h
  exact ⟨F, Z, ε, R, (After.bind h).imp (fun o ε1 k F1 H1 Z1 v S s1 R1 ow t => k F1 H1 Z1 σ ε1 v S s1 R1 Kp.refl (fun _ _ => rfl) ow t) fun _ _ _ x => x.w⟩
theorem s_retV {i : Nat} : ∀ D σ H, tSt mg P (.ret (.var i)) D σ H → tRet (tVar i) D σ H := by
  rintro D σ H ⟨F, Z, ε, R, h⟩
  unfold evS at h
  dsimp only at h
  split at h
  · exact h.elim
  · rename_i c
    cases e : ε i with
    | none => rw [e] at h; exact h.elim
    | some o =>
      rw [e] at h
      obtain ⟨v, hv, ow⟩ := R.slot i o e
      refine ⟨v, hv, h F H (fun j => if j = i then [] else Z j) σ (clr i ε) v (Z i) ⟨Sub.refl, fun _ _ h _ => h, fun _ h => h, fun _ h => .inl h, fun j a ha => ?_⟩ ⟨R.sub, fun j o' e' => ?_, fun j e' => ?_, fun j => ?_, fun j l hjl a ha hb => ?_, fun j a ha => ?_⟩ Kp.refl (fun j hj => ?_) ow ⟨R.nd i, R.fr i, fun a ha j hj => ?_, fun a ha => .inr ⟨i, ha⟩⟩⟩
      · split at ha
        · cases ha
        · exact .inr ⟨j, ha⟩
      · unfold clr at e'
        by_cases q : j = i
        · rw [if_pos q] at e'; cases e'
        · rw [if_neg q] at e' ⊢; exact R.slot j o' e'
      · unfold clr at e'
        by_cases q : j = i
        · rw [if_pos q]
        · rw [if_neg q] at e' ⊢; exact R.emp j e'
      · by_cases q : j = i
        · rw [if_pos q]; exact List.nodup_nil
        · rw [if_neg q]; exact R.nd j
      · split at ha
        · cases ha
        · split at hb
          · cases hb
          · exact R.dj j l hjl a ha hb
      · split at ha
        · cases ha
        · exact R.fr j a ha
      · unfold clr
        rw [if_neg]
        intro z; subst z
        exact c (by simpa using hj)
      · split at hj
        · cases hj
        · rename_i q
          exact R.dj i j (Ne.symm q) a ha hj
theorem s_asg {t : Tg} {e : Ex} {L : Nat} (hb : t.lim L = true) : ∀ D σ H, σ.length = L → tSt mg P (.asg t e) D σ H → tAsg (tE mg P e) (tgG K t) D σ H := by
  rintro D σ H hL ⟨F, Z, ε, R, h⟩
  unfold evS at h
  refine ⟨F, Z, ε, R, (After.bind h).imp (fun o ε1 k F1 H1 Z1 v S s1 R1 ow t1 => ?_) fun _ _ _ x => x.w⟩
  cases q : bindT P.mp t o ε1 with
  | none => rw [q] at k; exact k.elim
  | some ε2 =>
    rw [q] at k
    exact bindT_ok (S' := []) t s1 R1 ow (by rw [List.append_nil]; exact t1) q (by rw [hL]; exact hb) fun Z2 σ2 s2 R2 k2 _ => k F1 H1 Z2 σ2 s2 R2 k2
theorem s_ite {c : Ex} {a b : List St} : ∀ D σ H, tSt mg P (.ite c a b) D σ H → tIfS (tT mg P c) (tSs mg P a) (tSs mg P b) D σ H := by
  rintro D σ H ⟨F, Z, ε, R, h⟩
  unfold evS at h
  refine ⟨F, Z, ε, R, (After.bind h).imp (fun k ε1 q F1 H1 Z1 s1 R1 => ?_) fun _ _ _ x => x.w⟩
  cases k with
  | true =>
    rw [if_pos rfl]
    exact ⟨F1, Z1, ε1, R1, After.imp q (fun _ _ k => k.step s1 Kp.refl) fun _ _ _ x => x.step s1 Kp.refl⟩
  | false =>
    rw [if_neg (by simp)]
    exact ⟨F1, Z1, ε1, R1, After.imp q (fun _ _ k => k.step s1 Kp.refl) fun _ _ _ x => x.step s1 Kp.refl⟩

/-! ### loops -/
/-- what an iterator gives -/
def Walks (mg : Str → Option Value) (nm : Nm) (J : It) (F : Hp) (ds : List D) : Prop := ∀ F' H', Sub F F' → Sub F' H' → (∀ i, i < ds.length → J.go i H' ∧ ∀ x H'', J.yld i H' x H'' → H'' = H' ∧ ∃ d, ds[i]? = some d ∧ Rep mg nm F' d x) ∧ J.stop ds.length H'
def kIt (mg : Str → Option Value) (P : Pm) (σ : L2.St) (F H : Hp) (Z : Nat → List Addr) (Rr : It → Hp → Prop) : List D → Env → Prop := fun ds ε' => ∀ F' H' Z' J, Stp F H Z F' H' Z' → RelS mg P.nm F' H' σ ε' Z' → Walks mg P.nm J F' ds → Rr J H'
def tIt (mg : Str → Option Value) (P : Pm) (it : Ex) : TI := fun σ H Rr => ∃ F Z ε, RelS mg P.nm F H σ ε Z ∧ After (evIt P.cl P.sg it ε) (kIt mg P σ F H Z Rr) (xW mg P σ F H Z)
theorem drop_cons {ds : List D} {i : Nat} {d : D} (h : ds[i]? = some d) : ds.drop i = d :: ds.drop (i + 1) := by
  obtain ⟨hi, rfl⟩ := List.getElem?_eq_some_iff.mp h
  exact List.drop_eq_getElem_cons hi
theorem s_for {t : Tg} {it : Ex} {b : List St} {L : Nat} (hb : t.lim L = true) : ∀ D σ H, σ.length = L → tSt mg P (.for_ t it b) D σ H → tFor (tIt mg P it) (tgG K t) (tSs mg P b) D σ H := by
  rintro D σ H hL ⟨F, Z, ε, R, h⟩
  unfold evS at h
  refine ⟨F, Z, ε, R, (After.bind h).imp (fun ds ε1 k F1 H1 Z1 J s1 R1 wk => ?_) fun _ _ _ x => x.w⟩
  refine ⟨fun i m σ' H' => m = ds.length - i ∧ i ≤ ds.length ∧ ∃ Fi Zi εi, Stp F H Z Fi H' Zi ∧ Sub F1 Fi ∧ RelS mg P.nm Fi H' σ' εi Zi ∧ Kp P.mp σ σ' ∧
      After (forIt (fun x ε => match bindT P.mp t (.im x) ε with | some ε2 => evSs P.cl P.sg P.mp b ε2 | none => .bad) (ds.drop i) εi) (kS mg P σ F H Z D) (xS mg P σ F H Z),
    ⟨_, rfl, Nat.zero_le _, F1, Z1, ε1, s1, Sub.refl, R1, Kp.refl, k⟩, ?_⟩
  rintro i m σ' H' ⟨rfl, hi, Fi, Zi, εi, si, ui, Ri, ki, af⟩
  obtain ⟨w1, w2⟩ := wk Fi H' ui Ri.sub
  by_cases lt : i < ds.length
  · obtain ⟨g1, g2⟩ := w1 i lt
    refine .inr ⟨g1, fun σ2 H2 => i + 1 ≤ ds.length ∧ ∃ Fi Zi εi, Stp F H Z Fi H2 Zi ∧ Sub F1 Fi ∧ RelS mg P.nm Fi H2 σ2 εi Zi ∧ Kp P.mp σ σ2 ∧
      After (forIt (fun x ε => match bindT P.mp t (.im x) ε with | some ε2 => evSs P.cl P.sg P.mp b ε2 | none => .bad) (ds.drop (i + 1)) εi) (kS mg P σ F H Z D) (xS mg P σ F H Z),
      fun σ2 H2 q => ⟨ds.length - (i + 1), by omega, rfl, q⟩, fun x H'' y => ?_⟩
    obtain ⟨rfl, d, hd, rp⟩ := g2 x H'' y
    rw [drop_cons hd] at af
    unfold forIt at af
    cases q : bindT P.mp t (.im d) εi with
    | none => rw [q] at af; exact af.elim
    | some ε2 =>
      rw [q] at af
      dsimp only at af
      refine bindT_ok (S := []) (S' := []) t (o := .im d) si Ri ⟨rp, rfl⟩ Tmp.nil q (by rw [ki.len, hL]; exact hb) fun Z2 σ2 s2 R2 k2 _ => ?_
      refine ⟨Fi, Z2, ε2, R2, ?_⟩
      cases q2 : evSs P.cl P.sg P.mp b ε2 with
      | ok f ε3 =>
        rw [q2] at af
        cases f with
        | next =>
          dsimp only at af
          intro F3 H3 Z3 σ3 s3 R3 k3
          exact ⟨lt, F3, Z3, ε3, s2.trans s3, ui.trans s3.sub, R3, (ki.trans k2).trans k3, af⟩
        | ret o => exact kS.step (D := D) (f := .ret o) s2 (ki.trans k2) af
      | exc c v ε3 => rw [q2] at af; exact xS.step s2 (ki.trans k2) af
      | bad => rw [q2] at af; exact af.elim
  · have e : i = ds.length := by omega
    subst e
    refine .inl ⟨w2, ?_⟩
    rw [List.drop_length] at af
    unfold forIt at af
    exact af Fi H' Zi σ' si Ri ki
theorem s_whl {c : Ex} {b : List St} : ∀ D σ H, tSt mg P (.whl c b) D σ H → tWhile (tT mg P c) (tSs mg P b) D σ H := by
  rintro D σ H ⟨F, Z, ε, R, h⟩
  unfold evS at h
  refine ⟨fun m σ' H' => ∃ Fi Zi εi, Stp F H Z Fi H' Zi ∧ RelS mg P.nm Fi H' σ' εi Zi ∧ Kp P.mp σ σ' ∧ After (whlIt (evT P.cl P.sg c) (evSs P.cl P.sg P.mp b) m εi) (kS mg P σ F H Z D) (xS mg P σ F H Z),
    ⟨W, F, Z, ε, Stp.refl, R, Kp.refl, h⟩, ?_⟩
  rintro m σ' H' ⟨Fi, Zi, εi, si, Ri, ki, af⟩
  cases m with
  | zero => exact af.elim
  | succ m =>
    unfold whlIt at af
    refine ⟨Fi, Zi, εi, Ri, ?_⟩
    cases q : evT P.cl P.sg c εi with
    | ok k ε1 =>
      rw [q] at af
      cases k with
      | true =>
        dsimp only at af
        intro F1 H1 Z1 s1 R1
        rw [if_pos rfl]
        refine ⟨fun σ2 H2 => ∃ Fi Zi εi, Stp F H Z Fi H2 Zi ∧ RelS mg P.nm Fi H2 σ2 εi Zi ∧ Kp P.mp σ σ2 ∧ After (whlIt (evT P.cl P.sg c) (evSs P.cl P.sg P.mp b) m εi) (kS mg P σ F H Z D) (xS mg P σ F H Z),
          fun σ2 H2 z => ⟨m, Nat.lt_succ_self m, z⟩, F1, Z1, ε1, R1, ?_⟩
        cases q2 : evSs P.cl P.sg P.mp b ε1 with
        | ok f ε3 =>
          rw [q2] at af
          cases f with
          | next =>
            dsimp only at af
            intro F3 H3 Z3 σ3 s3 R3 k3
            exact ⟨F3, Z3, ε3, (si.trans s1).trans s3, R3, ki.trans k3, af⟩
          | ret o => exact kS.step (D := D) (f := .ret o) (si.trans s1) ki af
        | exc c v ε3 => rw [q2] at af; exact xS.step (si.trans s1) ki af
        | bad => rw [q2] at af; exact af.elim
      | false =>
        dsimp only at af
        intro F1 H1 Z1 s1 R1
        rw [if_neg (by simp)]
        exact af F1 H1 Z1 σ' (si.trans s1) R1 ki
    | exc k v ε1 =>
      rw [q] at af
      exact (xS.step si ki af).w
    | bad => rw [q] at af; exact af.elim
end
end Ev
end
section
set_option linter.all false
set_option maxRecDepth 100000
set_option maxHeartbeats 4000000
/-! What is walked; comprehensions. -/
namespace Ev
open PySem PySem.Spec PyProof.Rows L2
theorem PI.or {X : Cx} {tg e : Expr} {t t' : TI} (h : PI X tg e t) (h' : PI X tg e t') : PI X tg e (fun σ H Q => t σ H Q ∨ t' σ H Q) := ⟨fun pins s σ H Q I q => q.elim (h.run pins s σ H Q I) (h'.run pins s σ H Q I)⟩
theorem PI.imp {X : Cx} {tg e : Expr} {t t' : TI} (h : PI X tg e t) (i : ∀ σ H Q, t' σ H Q → t σ H Q) : PI X tg e t' := ⟨fun pins s σ H Q I q => h.run pins s σ H Q I (i σ H Q q)⟩
section
variable {X : Cx} {P : Pm} {nm : Nm} {mg : Str → Option Value} {K : W.Frag}
theorem rdF_ok {σ : L2.St} {F0 H0 F H : Hp} {Z0 Z : Nat → List Addr} {ε ε' : Env} {h : Hn} {v : V} {S1 : List Addr} {d : D}
    (s : Stp F0 H0 Z0 F H Z) (R : RelS mg P.nm F H σ ε Z) (o : HnR mg P F H σ h v S1) (t : Tmp H0 Z0 F Z S1) (e : rdF ε h = some (d, ε')) :
    ∃ F' Z', Stp F0 H0 Z0 F' H Z' ∧ RelS mg P.nm F' H σ ε' Z' ∧ Rep mg P.nm F' d v := by
  cases h with
  | val o' =>
    unfold rdF at e
    cases e
    exact ⟨fz F H S1, Z, Stp.freeze R.sub t.new F0 s, R.freeze t.dj, Own.rep _ v S1 o (fz_sub R.sub) fun a ha => fz_in ha⟩
  | slot i =>
    unfold rdF at e
    dsimp only at e
    obtain ⟨hv, rfl⟩ := o
    have own : ∀ o1, ε i = some o1 → ∃ F' Z', Stp F0 H0 Z0 F' H Z' ∧ RelS mg P.nm F' H σ (up ε i (.im o1.er)) Z' ∧ Rep mg P.nm F' o1.er v := fun o1 ei => by
      obtain ⟨w, hw, ow⟩ := R.slot i o1 ei
      rw [hv] at hw; cases hw
      have hF : ∀ b, fz F H (Z i) b ≠ none → F b ≠ none ∨ (b ∈ Z i ∧ b ∉ ([] : List Addr)) := fun b hb => by
        by_cases q : b ∈ Z i
        · exact .inr ⟨q, by simp⟩
        · rw [fz_out q] at hb; exact .inl hb
      have rp : Rep mg P.nm (fz F H (Z i)) o1.er v := Own.rep o1 v (Z i) ow (fz_sub R.sub) fun b hb => fz_in hb
      exact ⟨fz F H (Z i), _, s.trans (Stp.slotTo (fz_sub R.sub) hF (by simp)), R.slotTo hv (fz_sub R.sub) (fz_sub2 R.sub) hF ⟨rp, rfl⟩ (by simp) (by simp), rp⟩
    cases ei : ε i with
    | none => rw [ei] at e; cases e
    | some o1 =>
      rw [ei] at e
      cases o1 with
      | im d' =>
        cases e
        obtain ⟨w, hw, ow⟩ := R.slot i _ ei
        rw [hv] at hw; cases hw
        exact ⟨F, Z, s, R, ow.1⟩
      | ls ds => cases e; exact own _ ei
      | dc kvs => cases e; exact own _ ei
      | lst os => cases e; exact own _ ei
      | tup os => cases e; exact own _ ei
theorem walks_l {F : Hp} {ds : List D} {a : Addr} {vs : List V} (e : F a = some (.lst vs)) (r : Reps mg nm F ds vs) : Walks mg nm (Itl K a) F ds := fun F' H' u1 u2 => by
  have q : H' a = some (.lst vs) := u2 _ _ (u1 _ _ e)
  have sq : SqL K H' a vs := .inl (.inl q)
  refine ⟨fun i hi => ?_, ⟨vs, sq, by rw [r.length]; exact Nat.le_refl _⟩⟩
  have hv : i < vs.length := by rw [r.length]; exact hi
  refine ⟨⟨vs, vs[i], sq, by simp [hv]⟩, fun x H'' y => ⟨y.1, ?_⟩⟩
  have hx := y.2 vs sq
  have hd : ds[i]? = some ds[i] := by simp [hi]
  obtain ⟨w, hw, rp⟩ := r.get hd
  rw [hx] at hw; cases hw
  exact ⟨ds[i], hd, Rep.mono u1 _ _ rp⟩
theorem walks_t {F : Hp} {ds : List D} {a : Addr} {vs : List V} (e : F a = some (.tup vs)) (r : Reps mg nm F ds vs) : Walks mg nm (Itt K a) F ds := fun F' H' u1 u2 => by
  have q : H' a = some (.tup vs) := u2 _ _ (u1 _ _ e)
  have sq : SqT K H' a vs := .inl (.inl q)
  refine ⟨fun i hi => ?_, ⟨vs, sq, by rw [r.length]; exact Nat.le_refl _⟩⟩
  have hv : i < vs.length := by rw [r.length]; exact hi
  refine ⟨⟨vs, vs[i], sq, by simp [hv]⟩, fun x H'' y => ⟨y.1, ?_⟩⟩
  have hx := y.2 vs sq
  have hd : ds[i]? = some ds[i] := by simp [hi]
  obtain ⟨w, hw, rp⟩ := r.get hd
  rw [hx] at hw; cases hw
  exact ⟨ds[i], hd, Rep.mono u1 _ _ rp⟩
theorem rngD_len {lo : Int} {n : Nat} : (rngD lo n).length = n := by unfold rngD; simp
theorem rngD_get {lo : Int} {n i : Nat} (h : i < n) : (rngD lo n)[i]? = some (.int (lo + i)) := by unfold rngD; simp [h]
theorem walks_r {F : Hp} {lo : Int} {n : Nat} : Walks mg nm (Itr lo n) F (rngD lo n) := fun F' H' u1 u2 => by
  rw [rngD_len]
  exact ⟨fun i hi => ⟨hi, fun x H'' y => ⟨y.1, _, rngD_get hi, y.2⟩⟩, Nat.le_refl _⟩
theorem it_seq {e : Ex} (h1 : ∀ es, e ≠ .rng es) (h2 : ∀ x, e ≠ .enm x) : ∀ σ H Q, tIt mg P e σ H Q → iList K (tH mg P e) σ H Q ∨ iTup K (tH mg P e) σ H Q := by
  rintro σ H Q ⟨F, Z, ε, R, h⟩
  have key : evIt P.cl P.sg e ε = (evH P.cl P.sg e ε).bind fun h ε1 => match rdF ε1 h with
    | some (d, ε2) => match items d with
      | some xs => .ok xs ε2
      | none => .bad
    | none => .bad := by
    cases e with
    | rng es => exact absurd rfl (h1 es)
    | enm x => exact absurd rfl (h2 x)
    | _ => rw [evIt] <;> first | rfl | (intro i z; cases z) | (intro i; intro z; cases z)
  rw [key] at h
  cases q : evH P.cl P.sg e ε with
  | bad => rw [q] at h; exact h.elim
  | exc c v ε1 =>
    rw [q] at h
    exact .inl ⟨F, Z, ε, R, by rw [q]; exact h⟩
  | ok hh ε1 =>
    rw [q] at h
    have h' : After (match rdF ε1 hh with
      | some (d, ε2) => match items d with
        | some xs => .ok xs ε2
        | none => .bad
      | none => .bad) (kIt mg P σ F H Z Q) (xW mg P σ F H Z) := h
    cases q2 : rdF ε1 hh with
    | none => rw [q2] at h'; exact h'.elim
    | some p =>
      obtain ⟨d, ε2⟩ := p
      rw [q2] at h'
      dsimp only at h'
      cases d with
      | lst ds =>
        refine .inl ⟨F, Z, ε, R, by
          rw [q]
          intro F1 H1 Z1 v S s1 R1 o1 t1
          obtain ⟨F2, Z2, s2, R2, a, vs, rfl, e2, r2⟩ := rdF_ok s1 R1 o1 t1 q2
          exact ⟨a, rfl, ⟨vs, .inl (.inl (R2.sub _ _ e2))⟩, h' F2 H1 Z2 (Itl K a) s2 R2 (walks_l e2 r2)⟩⟩
      | tup ds =>
        refine .inr ⟨F, Z, ε, R, by
          rw [q]
          intro F1 H1 Z1 v S s1 R1 o1 t1
          obtain ⟨F2, Z2, s2, R2, a, vs, rfl, e2, r2⟩ := rdF_ok s1 R1 o1 t1 q2
          exact ⟨a, rfl, ⟨vs, .inl (.inl (R2.sub _ _ e2))⟩, h' F2 H1 Z2 (Itt K a) s2 R2 (walks_t e2 r2)⟩⟩
      | _ => exact h'.elim
theorem views_int {F H : Hp} {j : Int} {vs : List V} (h : Views mg nm F H [.int j] vs) : vs = [.int j] := by
  obtain ⟨v, r, rfl, v1, rfl⟩ := h
  rw [v1.int]
theorem it_rng1 {a : Ex} : ∀ σ H Q, tIt mg P (.rng [a]) σ H Q → iRng1 (tHs mg P [a]) σ H Q := by
  rintro σ H Q ⟨F, Z, ε, R, h⟩
  unfold evIt at h
  cases q : evHs P.cl P.sg [a] ε with
  | bad => rw [q] at h; exact h.elim
  | exc c v ε1 => rw [q] at h; exact ⟨F, Z, ε, R, by rw [q]; exact h⟩
  | ok hs ε1 =>
    rw [q] at h
    refine ⟨F, Z, ε, R, ?_⟩
    rw [q]
    have hl := evHs_len _ _ _ _ q
    intro F1 H1 Z1 vs S s1 R1 o1 t1
    have h' : After (match rds ε1 hs with
      | some ([.int j], ε2) => if -16777216 ≤ j ∧ j ≤ 16777216 then .ok (rngD 0 j.toNat) ε2 else .bad
      | some ([.int i, .int j], ε2) => if -16777216 ≤ i ∧ i ≤ 16777216 ∧ j ≤ 16777216 ∧ -16777216 ≤ j then .ok (rngD i (j - i).toNat) ε2 else .bad
      | _ => .bad) (kIt mg P σ F H Z Q) (xW mg P σ F H Z) := h
    cases q2 : rds ε1 hs with
    | none => rw [q2] at h'; exact h'.elim
    | some p =>
      obtain ⟨ds, ε2⟩ := p
      rw [q2] at h'
      obtain ⟨F2, Z2, s2, u2, R2, v2⟩ := rds_ok s1 R1 o1 t1 q2
      split at h'
      · rename_i j ε3 e
        cases e
        split at h'
        · rename_i c
          exact ⟨j, views_int v2, by omega, by omega, h' F2 H1 Z2 (Itr 0 j.toNat) s2 R2 walks_r⟩
        · exact h'.elim
      · rename_i i j ε3 e
        cases e
        obtain ⟨v, r, rfl, _, w, r', rfl, _, rfl⟩ := v2
        have := hnrs_len o1
        simp [hl] at this
      · exact h'.elim
theorem it_rng2 {a b : Ex} : ∀ σ H Q, tIt mg P (.rng [a, b]) σ H Q → iRng2 (tHs mg P [a, b]) σ H Q := by
  rintro σ H Q ⟨F, Z, ε, R, h⟩
  unfold evIt at h
  cases q : evHs P.cl P.sg [a, b] ε with
  | bad => rw [q] at h; exact h.elim
  | exc c v ε1 => rw [q] at h; exact ⟨F, Z, ε, R, by rw [q]; exact h⟩
  | ok hs ε1 =>
    rw [q] at h
    refine ⟨F, Z, ε, R, ?_⟩
    rw [q]
    have hl := evHs_len _ _ _ _ q
    intro F1 H1 Z1 vs S s1 R1 o1 t1
    have h' : After (match rds ε1 hs with
      | some ([.int j], ε2) => if -16777216 ≤ j ∧ j ≤ 16777216 then .ok (rngD 0 j.toNat) ε2 else .bad
      | some ([.int i, .int j], ε2) => if -16777216 ≤ i ∧ i ≤ 16777216 ∧ j ≤ 16777216 ∧ -16777216 ≤ j then .ok (rngD i (j - i).toNat) ε2 else .bad
      | _ => .bad) (kIt mg P σ F H Z Q) (xW mg P σ F H Z) := h
    cases q2 : rds ε1 hs with
    | none => rw [q2] at h'; exact h'.elim
    | some p =>
      obtain ⟨ds, ε2⟩ := p
      rw [q2] at h'
      obtain ⟨F2, Z2, s2, u2, R2, v2⟩ := rds_ok s1 R1 o1 t1 q2
      split at h'
      · rename_i j ε3 e
        cases e
        obtain ⟨v, r, rfl, _, rfl⟩ := v2
        have := hnrs_len o1
        simp [hl] at this
      · rename_i i j ε3 e
        cases e
        split at h'
        · rename_i c
          obtain ⟨v, r, rfl, v1, w, r', rfl, v2, rfl⟩ := v2
          rw [v1.int, v2.int]
          exact ⟨i, j, rfl, by omega, h' F2 H1 Z2 (Itr i (j - i).toNat) s2 R2 walks_r⟩
        · exact h'.elim
      · exact h'.elim
end
end Ev
end
section
set_option linter.all false
set_option maxRecDepth 100000
set_option maxHeartbeats 4000000
/-! Comprehensions. -/
namespace Ev
open PySem PySem.Spec PyProof.Rows L2
section
variable {X : Cx} {P : Pm} {nm : Nm} {mg : Str → Option Value} {K : W.Frag}
theorem wipe_none {σ : L2.St} {i : Nat} : ∀ {vs : List Nat}, i ∈ vs → i < σ.length → (L2.wipe σ vs)[i]? = some none
  | v :: vs, h, hl => by
    unfold L2.wipe
    by_cases e : v = i
    · subst e
      rw [List.getElem?_set_self (by rw [wipe_length]; exact hl)]
    · rw [List.getElem?_set_ne e]
      rcases List.mem_cons.mp h with q | q
      · exact absurd q.symm e
      · exact wipe_none q hl
theorem wipe_ext {σ τ : L2.St} {vs : List Nat} (hl : τ.length = σ.length) (h : ∀ i, i ∉ vs → τ[i]? = σ[i]?) : L2.wipe τ vs = L2.wipe σ vs := by
  refine List.ext_getElem? fun i => ?_
  by_cases hi : i ∈ vs
  · by_cases lt : i < σ.length
    · rw [wipe_none hi lt, wipe_none hi (by rw [hl]; exact lt)]
    · rw [List.getElem?_eq_none (by rw [wipe_length]; omega), List.getElem?_eq_none (by rw [wipe_length]; omega)]
  · rw [wipe_out hi, wipe_out hi]; exact h i hi
theorem wipe_twice {σ : L2.St} {vs : List Nat} : L2.wipe (L2.wipe σ vs) vs = L2.wipe σ vs := wipe_ext (wipe_length σ vs) fun i hi => wipe_out hi
theorem wipe_wipe {own : List Nat} {ε : Env} : wipe own (wipe own ε) = wipe own ε := by
  funext i
  unfold wipe
  by_cases c : own.contains i = true
  · rw [if_pos c, if_pos c]
  · rw [if_neg c, if_neg c]
theorem wipe_drop {F H : Hp} {σ : L2.St} {ε : Env} {Z : Nat → List Addr} (R : RelS mg nm F H σ ε Z) (own : List Nat) :
    Stp F H Z F H (fun i => if own.contains i then [] else Z i) ∧ RelS mg nm F H (L2.wipe σ own) (wipe own ε) (fun i => if own.contains i then [] else Z i) := by
  refine ⟨⟨Sub.refl, fun _ _ h _ => h, fun _ h => h, fun _ h => .inl h, fun i a ha => ?_⟩, ⟨R.sub, fun i o e => ?_, fun i e => ?_, fun i => ?_, fun i j hij a ha hb => ?_, fun i a ha => ?_⟩⟩
  · split at ha
    · cases ha
    · exact .inr ⟨i, ha⟩
  · unfold wipe at e
    by_cases c : own.contains i = true
    · rw [if_pos c] at e; cases e
    · rw [if_neg c] at e ⊢
      obtain ⟨v, h1, h2⟩ := R.slot i o e
      exact ⟨v, by rw [wipe_out (by simpa using c)]; exact h1, h2⟩
  · unfold wipe at e
    by_cases c : own.contains i = true
    · rw [if_pos c]
    · rw [if_neg c] at e ⊢; exact R.emp i e
  · split
    · exact List.nodup_nil
    · exact R.nd i
  · split at ha
    · cases ha
    · split at hb
      · cases hb
      · exact R.dj i j hij a ha hb
  · split at ha
    · cases ha
    · exact R.fr i a ha
mutual
def Tg.inn : Tg → List Nat → Bool
  | .name i, vs => vs.contains i
  | .tup ts, vs => Tg.inns ts vs
def Tg.inns : List Tg → List Nat → Bool
  | [], _ => true
  | t :: ts, vs => Tg.inn t vs && Tg.inns ts vs
end
mutual
theorem tgG_mono : ∀ (t : Tg) {v : V} {σ : L2.St} {H : Hp} {G G' : L2.St → Hp → Prop}, (∀ σ' H', G σ' H' → G' σ' H') → tgG K t v σ H G → tgG K t v σ H G'
  | .name i, v, σ, H, G, G', k, h => by unfold tgG at h ⊢; exact k _ _ h
  | .tup ts, v, σ, H, G, G', k, h => by
    unfold tgG at h ⊢
    obtain ⟨a, xs, e1, e2, e3, h⟩ := h
    exact ⟨a, xs, e1, e2, e3, tgGs_mono ts k h⟩
theorem tgGs_mono : ∀ (ts : List Tg) {vs : List V} {σ : L2.St} {H : Hp} {G G' : L2.St → Hp → Prop}, (∀ σ' H', G σ' H' → G' σ' H') → tgGs K ts vs σ H G → tgGs K ts vs σ H G'
  | [], vs, σ, H, G, G', k, h => by unfold tgGs at h ⊢; exact ⟨h.1, k _ _ h.2⟩
  | t :: ts, vs, σ, H, G, G', k, h => by
    unfold tgGs at h ⊢
    obtain ⟨v, r, e, h⟩ := h
    exact ⟨v, r, e, tgG_mono t (fun σ' H' q => tgGs_mono ts k q) h⟩
end
mutual
theorem tgG_wipe {own : List Nat} : ∀ (t : Tg) {v : V} {σ : L2.St} {H : Hp} {G : L2.St → Hp → Prop}, t.inn own = true → tgG K t v σ H G → tgG K t v σ H (fun σ' H' => L2.wipe σ' own = L2.wipe σ own ∧ G σ' H')
  | .name i, v, σ, H, G, hi, h => by
    unfold tgG at h ⊢
    unfold Tg.inn at hi
    refine ⟨wipe_ext (by simp) fun j hj => ?_, h⟩
    rw [List.getElem?_set_ne]
    intro z; subst z
    exact hj (by simpa using hi)
  | .tup ts, v, σ, H, G, hi, h => by
    unfold tgG at h ⊢
    unfold Tg.inn at hi
    obtain ⟨a, xs, e1, e2, e3, h⟩ := h
    exact ⟨a, xs, e1, e2, e3, tgGs_wipe ts hi h⟩
theorem tgGs_wipe {own : List Nat} : ∀ (ts : List Tg) {vs : List V} {σ : L2.St} {H : Hp} {G : L2.St → Hp → Prop}, Tg.inns ts own = true → tgGs K ts vs σ H G → tgGs K ts vs σ H (fun σ' H' => L2.wipe σ' own = L2.wipe σ own ∧ G σ' H')
  | [], vs, σ, H, G, hi, h => by unfold tgGs at h ⊢; exact ⟨h.1, rfl, h.2⟩
  | t :: ts, vs, σ, H, G, hi, h => by
    unfold tgGs at h ⊢
    unfold Tg.inns at hi
    simp only [Bool.and_eq_true] at hi
    obtain ⟨v, r, e, h⟩ := h
    refine ⟨v, r, e, tgG_mono t (fun σ' H' q => ?_) (tgG_wipe t hi.1 h)⟩
    exact tgGs_mono ts (fun σ2 H2 q2 => ⟨q2.1.trans q.1, q2.2⟩) (tgGs_wipe ts hi.2 q.2)
end
theorem Owns.append {F H : Hp} : ∀ {os os' : List O} {vs vs' : List V} {S S' : List Addr}, Owns mg nm F H os vs S → Owns mg nm F H os' vs' S' → Owns mg nm F H (os ++ os') (vs ++ vs') (S ++ S')
  | [], os', vs, vs', S, S', h, h' => by
    obtain ⟨rfl, rfl⟩ := h
    exact h'
  | o :: os, os', vs, vs', S, S', h, h' => by
    obtain ⟨v, r, S1, S2, rfl, h1, h2, rfl⟩ := h
    exact ⟨v, r ++ vs', S1, S2 ++ S', rfl, h1, Owns.append h2 h', by rw [List.append_assoc]⟩
def Pm.no (P : Pm) : Pm := { P with W := fun _ _ _ _ => False }
def tTests (mg : Str → Option Value) (P : Pm) : List Ex → TT
  | [] => tYes
  | [c] => tT mg P c
  | _ => fun _ _ _ => False
theorem evTs_one {cl : Nat → List O → COut} {sg : Nat → List Nat} {c : Ex} {ε : Env} : evTs cl sg [c] ε = evT cl sg c ε := by
  unfold evTs
  cases evT cl sg c ε with
  | ok b ε1 => cases b <;> (unfold Res.bind; first | rfl | (dsimp only; done) | (dsimp only; unfold evTs; rfl))
  | exc _ _ _ => rfl
  | bad => rfl
/-- one turn's end, then the rest -/
def lcR (step : D → Env → Res (Option O)) (xs : List D) (r : Res (Option O)) : Res (List O) := match r with
  | .ok r ε1 => match lcIt step xs ε1 with
    | .ok os ε2 => .ok (match r with
      | some o => o :: os
      | none => os) ε2
    | .exc _ _ _ => .bad
    | .bad => .bad
  | .exc _ _ _ => .bad
  | .bad => .bad
theorem lcIt_cons {step : D → Env → Res (Option O)} {x : D} {xs : List D} {ε : Env} : lcIt step (x :: xs) ε = lcR step xs (step x ε) := by
  rw [lcIt]
  cases step x ε <;> rfl
mutual
theorem bindT_mp {mp : List Nat} {own : List Nat} (hd : ∀ i ∈ own, i ∉ mp) : ∀ (t : Tg) {o : O} {ε : Env}, t.inn own = true → bindT mp t o ε = bindT [] t o ε
  | .name i, o, ε, h => by
    unfold Tg.inn at h
    have hi : mp.contains i = false := by
      have := hd i (by simpa using h)
      simpa using this
    unfold bindT
    rw [hi]; rfl
  | .tup ts, o, ε, h => by
    unfold Tg.inn at h
    cases o with
    | im d =>
      cases d with
      | tup ds => unfold bindT; exact bindTs_mp hd ts h
      | _ => unfold bindT; rfl
    | tup os => unfold bindT; exact bindTs_mp hd ts h
    | _ => unfold bindT; rfl
theorem bindTs_mp {mp : List Nat} {own : List Nat} (hd : ∀ i ∈ own, i ∉ mp) : ∀ (ts : List Tg) {os : List O} {ε : Env}, Tg.inns ts own = true → bindTs mp ts os ε = bindTs [] ts os ε
  | [], os, ε, h => by cases os <;> (unfold bindTs; rfl)
  | t :: ts, os, ε, h => by
    unfold Tg.inns at h
    simp only [Bool.and_eq_true] at h
    cases os with
    | nil => unfold bindTs; rfl
    | cons o os =>
      unfold bindTs
      rw [bindT_mp hd t h.1]
      cases bindT [] t o ε with
      | none => rfl
      | some ε1 => exact bindTs_mp hd ts h.2
end
theorem lc_of {e it : Ex} {tg : Tg} {ifs : List Ex} {own : List Nat} {L : Nat} (hin : tg.inn own = true) (hlim : tg.lim L = true) (hif : ifs.length ≤ 1) : ∀ σ H Q, σ.length = L → tE mg P (.lc e tg it ifs own) σ H Q → tLc (tIt mg P it) (tgG K tg) (tTests mg P.no ifs) (tE mg P.no e) own σ H Q := by
  rintro σ H Q hL ⟨F, Z, ε, R, h⟩
  unfold evE at h
  refine ⟨F, Z, ε, R, (After.bind h).imp (fun xs ε1 k F1 H1 Z1 J s1 R1 wk => ?_) fun _ _ _ x => x⟩
  intro D hD
  by_cases big : 16777216 < xs.length
  · rw [if_pos big] at k; exact k.elim
  rw [if_neg big] at k
  replace k := After.bind k
  generalize hstep : (fun x ε => match bindT [] tg (.im x) (wipe own ε) with
      | some ε2 => (evTs P.cl P.sg ifs ε2).bind fun k ε3 => match k with
        | true => (evE P.cl P.sg e ε3).bind fun o ε4 => .ok (some o) ε4
        | false => .ok none ε3
      | none => (.bad : Res (Option O))) = step at k
  -- the names of the block put away
  obtain ⟨sd, Rd⟩ := wipe_drop R1 own
  have hB : ∀ a ∈ own.flatMap Z1, ∃ j ∈ own, a ∈ Z1 j := fun a ha => by simpa using ha
  have Rw := Rd.freeze (S := own.flatMap Z1) (fun a ha i hi => by
    obtain ⟨j, hj, hb⟩ := hB a ha
    by_cases c : own.contains i = true
    · rw [if_pos c] at hi; cases hi
    · rw [if_neg c] at hi
      exact R1.dj j i (fun z => c (by rw [← z]; simpa using hj)) a hb hi)
  have sw := Stp.freeze Rd.sub (S := own.flatMap Z1) (fun a ha => by
    obtain ⟨j, hj, hb⟩ := hB a ha
    exact s1.newZ j a hb) F (s1.trans sd)
  obtain ⟨l1, l2, l3, l4⟩ := laid (u := .lst []) sw Rw Tmp.nil (fun a ha => by cases ha) hD
  have hD0 : H D = none := s1.dom D hD
  let Iv : Nat → Hp → Prop := fun i H' => ∃ Fi Zi εi vsa Sa od, Stp F H Z Fi H' Zi ∧ Sub (fz F1 H1 (own.flatMap Z1)) Fi ∧ RelS mg P.nm Fi H' (L2.wipe σ own) (wipe own εi) Zi ∧ H' D = some (.lst vsa) ∧ Owns mg P.nm Fi H' od vsa Sa ∧
    Tmp H Z Fi Zi (D :: Sa) ∧ vsa.length ≤ i ∧ After (lcIt step (xs.drop i) εi) (fun os' ε5 => kO mg P σ F H Z Q (mk .ls .lst (od ++ os')) (unwipe own ε1 ε5)) (xW mg P σ F H Z)
  refine ⟨fun i m H' => m = xs.length - i ∧ i ≤ xs.length ∧ Iv i H', ⟨_, rfl, Nat.zero_le _, _, _, wipe own ε1, [], [], [], l1, Sub.refl, ?_, upd_same, ⟨rfl, rfl⟩, l3, Nat.le_refl _, k⟩, ?_⟩
  · rw [wipe_wipe]; exact l2
  rintro i m H' ⟨rfl, hi, Fi, Zi, εi, vsa, Sa, od, si, ui, Ri, eD, ow, ti, la, af⟩
  have uF1 : Sub F1 Fi := (fz_sub R1.sub).trans ui
  obtain ⟨w1, w2⟩ := wk Fi H' uF1 Ri.sub
  have dm : ∀ a ∈ D :: Sa, ∃ u, H' a = some u := fun a ha => by
    rcases List.mem_cons.mp ha with rfl | ha
    · exact ⟨_, eD⟩
    · exact Owns.dom od vsa Sa ow a ha
  by_cases lt : i < xs.length
  · obtain ⟨g1, g2⟩ := w1 i lt
    refine .inr ⟨g1, fun H2 => i + 1 ≤ xs.length ∧ Iv (i + 1) H2, fun H2 q => ⟨xs.length - (i + 1), by omega, rfl, q⟩, fun x H'' y => ?_⟩
    obtain ⟨rfl, d, hd, rp⟩ := g2 x H'' y
    rw [drop_cons hd, lcIt_cons] at af
    have est : step d εi = match bindT [] tg (.im d) (wipe own εi) with
      | some ε2 => (evTs P.cl P.sg ifs ε2).bind fun k ε3 => match k with
        | true => (evE P.cl P.sg e ε3).bind fun o ε4 => .ok (some o) ε4
        | false => .ok none ε3
      | none => .bad := by rw [← hstep]
    rw [est] at af
    cases q : bindT [] tg (.im d) (wipe own εi) with
    | none => rw [q] at af; exact af.elim
    | some ε2 =>
      rw [q] at af
      dsimp only at af
      refine tgG_mono tg (fun σ' Hz q => ⟨q.1.trans wipe_twice, q.2⟩) (tgG_wipe (own := own) tg (G := fun σ2 H2 => tTests mg P.no ifs σ2 H2 fun b H3 => if b = true then tE mg P.no e σ2 H3 fun y H4 => ∃ acc, H4 D = some (.lst acc) ∧ acc.length < sizeLine ∧ (i + 1 ≤ xs.length ∧ Iv (i + 1) (upd H4 D (.lst (acc ++ [y])))) else i + 1 ≤ xs.length ∧ Iv (i + 1) H3) hin ?_)
      -- the target bound
      refine bindT_ok (mp := List.filter (fun j => !own.contains j) (List.range L)) tg (o := .im d) (ε' := ε2) (S := []) (S' := D :: Sa) si Ri ⟨rp, rfl⟩ (by rw [List.nil_append]; exact ti) ?_ (by rw [wipe_length, hL]; exact hlim) fun Z2 σ2 s2 R2 k2 t2 => ?_
      · rw [bindT_mp (own := own) (fun j hj z => by simp [hj] at z) tg hin]; exact q
      have wσ : L2.wipe σ2 own = L2.wipe σ own := by
        refine (wipe_ext (by rw [k2.len, wipe_length]) fun j hj => ?_)
        by_cases lj : j < L
        · rw [k2.on j (by simp [lj, hj]), wipe_out hj]
        · rw [List.getElem?_eq_none (by rw [k2.len, wipe_length, hL]; omega), List.getElem?_eq_none (by rw [hL]; omega)]
      -- behind the tests
      have cont : ∀ (b : Bool) (ε3 : Env) F3 H3 Z3, After (lcR step (xs.drop (i + 1)) (match b with
          | true => (evE P.cl P.sg e ε3).bind fun o ε4 => .ok (some o) ε4
          | false => .ok none ε3)) (fun os' ε5 => kO mg P σ F H Z Q (mk .ls .lst (od ++ os')) (unwipe own ε1 ε5)) (xW mg P σ F H Z) → Stp Fi H'' Z2 F3 H3 Z3 → RelS mg P.nm F3 H3 σ2 ε3 Z3 →
          if b = true then tE mg P.no e σ2 H3 fun y H4 => ∃ acc, H4 D = some (.lst acc) ∧ acc.length < sizeLine ∧ (i + 1 ≤ xs.length ∧ Iv (i + 1) (upd H4 D (.lst (acc ++ [y])))) else i + 1 ≤ xs.length ∧ Iv (i + 1) H3 := by
        intro b ε3 F3 H3 Z3 af s3 R3
        obtain ⟨t3, c3⟩ := t2.step s3 dm
        have ow3 : Owns mg P.nm F3 H3 od vsa Sa := Owns.mono s3.sub od vsa Sa ow fun a ha => c3 a (List.mem_cons_of_mem _ ha)
        have dm3 : ∀ a ∈ D :: Sa, ∃ u, H3 a = some u := fun a ha => by
          obtain ⟨u, eu⟩ := dm a ha
          exact ⟨u, c3 a ha u eu⟩
        cases b with
        | false =>
          rw [if_neg (by simp)]
          dsimp only at af
          obtain ⟨s4, R4⟩ := wipe_drop R3 own
          rw [wσ] at R4
          refine ⟨lt, F3, _, ε3, vsa, Sa, od, (s2.trans s3).trans s4, ui.trans s3.sub, R4, c3 D List.mem_cons_self _ eD, ow3, ⟨t3.nd, t3.fr, fun a ha j hj => ?_, t3.new⟩, by omega, ?_⟩
          · split at hj
            · cases hj
            · exact t3.dj a ha j hj
          · unfold lcR at af
            dsimp only at af
            cases q5 : lcIt step (xs.drop (i + 1)) ε3 with
            | ok os ε5 => rw [q5] at af; exact af
            | exc _ _ _ => rw [q5] at af; exact af.elim
            | bad => rw [q5] at af; exact af.elim
        | true =>
          rw [if_pos rfl]
          dsimp only at af
          refine ⟨F3, Z3, ε3, R3, ?_⟩
          show After (evE P.cl P.sg e ε3) _ _
          cases q4 : evE P.cl P.sg e ε3 with
          | exc _ _ _ => rw [q4] at af; exact af.elim
          | bad => rw [q4] at af; exact af.elim
          | ok o ε4 =>
            rw [q4] at af
            intro F4 H4 Z4 y Sy s4 R4 ow4 t4
            replace R4 : RelS mg P.nm F4 H4 σ2 ε4 Z4 := R4
            obtain ⟨t5, c5⟩ := t3.step s4 dm3
            have eD4 : H4 D = some (.lst vsa) := c5 D List.mem_cons_self _ (c3 D List.mem_cons_self _ eD)
            have ta := Tmp.append (s2.trans s3) t3 s4 dm3 t4
            have DF : F4 D = none := t5.fr D List.mem_cons_self
            have nS : D ∉ Sa ++ Sy := (List.nodup_cons.mp ta.nd).1
            refine ⟨vsa, eD4, by rw [sizeLine_eq]; omega, lt, ?_⟩
            obtain ⟨s6, R6⟩ := wipe_drop R4 own
            rw [wσ] at R6
            have so : ∀ a ∈ Sa ++ Sy, ∀ u, H4 a = some u → (upd H4 D (.lst (vsa ++ [y]))) a = some u := fun a ha u eu => by
              have ne : a ≠ D := fun z => by rw [z] at ha; exact nS ha
              rw [upd_ne ne]; exact eu
            have zD : ∀ j, D ∉ Z4 j := t5.dj D List.mem_cons_self
            have sub6 : Sub F4 (upd H4 D (.lst (vsa ++ [y]))) := fun a u eu => by
              have ne : a ≠ D := fun z => by rw [z, DF] at eu; cases eu
              rw [upd_ne ne]
              exact R4.sub _ _ eu
            have s7 : Stp F H Z F4 (upd H4 D (.lst (vsa ++ [y]))) (fun j => if own.contains j then [] else Z4 j) := by
              have s5 := ((s2.trans s3).trans s4).trans s6
              refine ⟨s5.sub, fun a u eu hz => ?_, fun a eu => ?_, s5.newF, s5.newZ⟩
              · have ne : a ≠ D := fun z => by rw [z, hD0] at eu; cases eu
                rw [upd_ne ne]
                exact s5.keep a u eu hz
              · by_cases z : a = D
                · rw [z]; exact hD0
                · rw [upd_ne z] at eu
                  exact s5.dom a eu
            have R7 : RelS mg P.nm F4 (upd H4 D (.lst (vsa ++ [y]))) (L2.wipe σ own) (wipe own ε4) (fun j => if own.contains j then [] else Z4 j) := by
              refine ⟨sub6, fun j o' e' => ?_, R6.emp, R6.nd, R6.dj, R6.fr⟩
              obtain ⟨v, h1, h2⟩ := R6.slot j o' e'
              refine ⟨v, h1, Own.mono Sub.refl o' v _ h2 fun a ha u eu => ?_⟩
              have ne : a ≠ D := fun z => by
                try dsimp only at ha
                split at ha
                · cases ha
                · rw [z] at ha; exact zD j ha
              rw [upd_ne ne]
              exact eu
            refine ⟨F4, _, ε4, vsa ++ [y], Sa ++ Sy, od ++ [o], s7, (ui.trans s3.sub).trans s4.sub, R7, upd_same, Owns.append (Owns.mono s4.sub od vsa Sa ow3 fun a ha u eu => ?_) ⟨y, [], Sy, [], rfl, Own.mono Sub.refl o y Sy ow4 fun a ha => so a (List.mem_append_right _ ha), ⟨rfl, rfl⟩, by simp⟩,
              ⟨ta.nd, ta.fr, fun a ha j hj => ?_, ta.new⟩, by simp; omega, ?_⟩
            · exact so a (List.mem_append_left _ ha) u (c5 a (List.mem_cons_of_mem _ ha) u eu)
            · try dsimp only at hj
              split at hj
              · cases hj
              · exact ta.dj a ha j hj
            · have af' : After (lcR step (xs.drop (i + 1)) (.ok (some o) ε4)) (fun os' ε5 => kO mg P σ F H Z Q (mk .ls .lst (od ++ os')) (unwipe own ε1 ε5)) (xW mg P σ F H Z) := af
              unfold lcR at af'
              dsimp only at af'
              cases q5 : lcIt step (xs.drop (i + 1)) ε4 with
              | ok os ε5 =>
                rw [q5] at af'
                dsimp only at af'
                show kO mg P σ F H Z Q (mk .ls .lst ((od ++ [o]) ++ os)) (unwipe own ε1 ε5)
                rw [List.append_assoc]
                exact af'
              | exc _ _ _ => rw [q5] at af'; exact af'.elim
              | bad => rw [q5] at af'; exact af'.elim
      have af2 : After (lcR step (xs.drop (i + 1)) ((evTs P.cl P.sg ifs ε2).bind fun k ε3 => match k with
        | true => (evE P.cl P.sg e ε3).bind fun o ε4 => .ok (some o) ε4
        | false => .ok none ε3)) (fun os' ε5 => kO mg P σ F H Z Q (mk .ls .lst (od ++ os')) (unwipe own ε1 ε5)) (xW mg P σ F H Z) := af
      cases ifs with
      | nil =>
        rw [evTs] at af2
        unfold tTests tYes
        exact cont true ε2 Fi H'' Z2 af2 Stp.refl R2
      | cons c r =>
        cases r with
        | cons _ _ => simp at hif
        | nil =>
          rw [evTs_one] at af2
          unfold tTests
          refine ⟨Fi, Z2, ε2, R2, ?_⟩
          show After (evT P.cl P.sg c ε2) _ _
          cases q3 : evT P.cl P.sg c ε2 with
          | exc _ _ _ => rw [q3] at af2; exact af2.elim
          | bad => rw [q3] at af2; exact af2.elim
          | ok b ε3 =>
            rw [q3] at af2
            intro F3 H3 Z3 s3 R3
            exact cont b ε3 F3 H3 Z3 af2 s3 R3
  · have e : i = xs.length := by omega
    subst e
    refine .inl ⟨w2, ?_⟩
    rw [List.drop_length] at af
    unfold lcIt at af
    have af' : kO mg P σ F H Z Q (mk .ls .lst (od ++ [])) (unwipe own ε1 εi) := af
    rw [List.append_nil] at af'
    refine af' Fi H' Zi (.ref D) (D :: Sa) si ⟨Ri.sub, fun j o e => ?_, fun j e => ?_, Ri.nd, Ri.dj, Ri.fr⟩ ?_ ti
    · unfold unwipe at e
      by_cases c : own.contains j = true
      · rw [if_pos c] at e
        cases q : ε1 j with
        | none => rw [q] at e; cases e
        | some o1 =>
          rw [q] at e; cases e
          obtain ⟨v, h1, h2⟩ := R1.slot j o1 q
          have z : Zi j = [] := Ri.emp j (by unfold wipe; rw [if_pos c])
          rw [z]
          exact ⟨v, h1, Rep.mono ui _ _ (Own.rep o1 v _ h2 (fz_sub R1.sub) fun a ha => fz_in (by simp; exact ⟨j, by simpa using c, ha⟩)), rfl⟩
      · rw [if_neg c] at e
        obtain ⟨v, h1, h2⟩ := Ri.slot j o (by unfold wipe; rw [if_neg c]; exact e)
        exact ⟨v, by rw [wipe_out (by simpa using c)] at h1; exact h1, h2⟩
    · unfold unwipe at e
      refine Ri.emp j ?_
      unfold wipe
      by_cases c : own.contains j = true
      · rw [if_pos c]
      · rw [if_neg c] at e ⊢; exact e
    · unfold mk
      cases e : O.ims od with
      | some ds =>
        obtain ⟨rp, eS⟩ := Owns.ims ow e
        exact ⟨D, vsa, rfl, eD, rp, by rw [eS]⟩
      | none => exact ⟨D, vsa, Sa, rfl, eD, ow, rfl⟩
end
end Ev
end
section
set_option linter.all false
set_option maxRecDepth 100000
set_option maxHeartbeats 4000000
/-! Lists of one's own changed; assignments side by side. -/
namespace Ev
open PySem PySem.Spec PyProof.Rows L2
section
variable {X : Cx} {P : Pm} {nm : Nm} {mg : Str → Option Value} {K : W.Frag}
theorem up_up {ε : Env} {i : Nat} {o o' : O} : up (up ε i o) i o' = up ε i o' := by
  funext j
  unfold up
  by_cases q : j = i
  · rw [if_pos q, if_pos q]
  · rw [if_neg q, if_neg q, if_neg q]
/-- a list of one's own gets other items -/
theorem put_ok {σ : L2.St} {F0 H0 F H : Hp} {Z0 Z : Nat → List Addr} {ε : Env} {i : Nat} {ds ds' : List D} {a : Addr} {vs' : List V}
    (s : Stp F0 H0 Z0 F H Z) (R : RelS mg nm F H σ ε Z) (e : ε i = some (.ls ds)) (hv : σ[i]? = some (some (.ref a))) (r : Reps mg nm F ds' vs') :
    Stp F0 H0 Z0 F (upd H a (.lst vs')) Z ∧ RelS mg nm F (upd H a (.lst vs')) σ (up ε i (.ls ds')) Z := by
  obtain ⟨w, hw, a', vs0, e1, e2, r0, eZ⟩ := R.slot i _ e
  rw [hv] at hw; cases hw; cases e1
  have ha : a ∈ Z i := by rw [eZ]; simp
  have hF : F a = none := R.fr i a ha
  refine ⟨⟨s.sub, fun b o hb hz => ?_, fun b hb => ?_, s.newF, s.newZ⟩, ⟨fun b o hb => ?_, fun j o ej => ?_, fun j ej => ?_, R.nd, R.dj, R.fr⟩⟩
  · have ne : b ≠ a := fun z => by
      subst z
      rcases s.newZ i b ha with q | ⟨j, q⟩
      · rw [hb] at q; cases q
      · exact hz j q
    rw [upd_ne ne]; exact s.keep b o hb hz
  · by_cases z : b = a
    · subst z; rw [upd_same] at hb; cases hb
    · rw [upd_ne z] at hb; exact s.dom b hb
  · have ne : b ≠ a := fun z => by rw [z, hF] at hb; cases hb
    rw [upd_ne ne]; exact R.sub _ _ hb
  · unfold up at ej
    by_cases q : j = i
    · subst q
      rw [if_pos rfl] at ej; cases ej
      exact ⟨.ref a, hv, a, vs', rfl, upd_same, r, eZ⟩
    · rw [if_neg q] at ej
      obtain ⟨v, h1, h2⟩ := R.slot j o ej
      refine ⟨v, h1, Own.mono Sub.refl o v _ h2 fun b hb u eu => ?_⟩
      have ne : b ≠ a := fun z => by rw [z] at hb; exact R.dj j i q a hb ha
      rw [upd_ne ne]; exact eu
  · unfold up at ej
    by_cases q : j = i
    · rw [if_pos q] at ej; cases ej
    · rw [if_neg q] at ej; exact R.emp j ej
theorem rd_ls {ε : Env} {i : Nat} {ds : List D} (e : ε i = some (.ls ds)) : rd ε (.slot i) = some (.lst ds, ε) := by unfold rd; dsimp only; rw [e]
theorem rd_lst {ε : Env} {i : Nat} {os : List O} (e : ε i = some (.lst os)) : rd ε (.slot i) = some (.lst (O.ers os), up ε i (.ls (O.ers os))) := by unfold rd; dsimp only; rw [e]
/-- such a list, its items plain -/
theorem own_ls {σ : L2.St} {F0 H0 F H : Hp} {Z0 Z : Nat → List Addr} {ε : Env} {i : Nat} {ds : List D} {v : V} (s : Stp F0 H0 Z0 F H Z) (R : RelS mg P.nm F H σ ε Z) (hv : σ[i]? = some (some v)) (e : ε i = some (.ls ds) ∨ ∃ os, ε i = some (.lst os) ∧ ds = O.ers os) :
    ∃ F' Z' ε' a vs, Stp F0 H0 Z0 F' H Z' ∧ Sub F F' ∧ RelS mg P.nm F' H σ ε' Z' ∧ ε' i = some (.ls ds) ∧ (∀ o, up ε' i o = up ε i o) ∧ v = .ref a ∧ H a = some (.lst vs) ∧ Reps mg P.nm F' ds vs := by
  rcases e with e | ⟨os, e, rfl⟩
  · obtain ⟨w, hw, a, vs, rfl, e2, r, _⟩ := R.slot i _ e
    rw [hv] at hw; cases hw
    exact ⟨F, Z, ε, a, vs, s, Sub.refl, R, e, fun _ => rfl, rfl, e2, r⟩
  · obtain ⟨F', Z', s', u', R', _⟩ := rd_ok (h := .slot i) (S1 := []) (S2 := []) s R ⟨hv, rfl⟩ Tmp.nil (rd_lst e)
    have e' : up ε i (.ls (O.ers os)) i = some (.ls (O.ers os)) := if_pos rfl
    obtain ⟨w, hw, a, vs, rfl, e2, r, _⟩ := R'.slot i _ e'
    rw [hv] at hw; cases hw
    exact ⟨F', Z', _, a, vs, s', u', R', e', fun _ => up_up, rfl, e2, r⟩
theorem hList_ty {σ : L2.St} {F H : Hp} {Z : Nat → List Addr} {ε : Env} {i : Nat} (R : RelS mg nm F H σ ε Z) (h : hList ε (.slot i) = true) : ∃ a vs, σ[i]? = some (some (.ref a)) ∧ H a = some (.lst vs) := by
  unfold hList at h
  dsimp only at h
  cases e : ε i with
  | none => rw [e] at h; cases h
  | some o =>
    rw [e] at h
    obtain ⟨v, hv, ow⟩ := R.slot i o e
    cases o with
    | im d =>
      cases d with
      | lst ds =>
        obtain ⟨⟨a, vs, rfl, e2, _⟩, _⟩ := ow
        exact ⟨a, vs, hv, R.sub _ _ e2⟩
      | _ => cases h
    | ls ds =>
      obtain ⟨a, vs, rfl, e2, _⟩ := ow
      exact ⟨a, vs, hv, e2⟩
    | lst os =>
      obtain ⟨a, vs, _, rfl, e2, _⟩ := ow
      exact ⟨a, vs, hv, e2⟩
    | dc _ => cases h
    | tup _ => cases h
theorem ers_len : ∀ os : List O, (O.ers os).length = os.length
  | [] => rfl
  | o :: os => by unfold O.ers; simp [ers_len os]
/-- name.append(e) -/
theorem app_of {i : Nat} {e : Ex} : ∀ σ H Q, tE mg P (.app i e) σ H Q → tBM K "list" rAppend (tVar i) (tCons (tE mg P e) tNil) σ H Q := by
  rintro σ H Q ⟨F, Z, ε, R, h⟩
  unfold evE at h
  by_cases c : hList ε (.slot i) = true
  · rw [if_pos c] at h
    obtain ⟨a, vs0, hv, ha⟩ := hList_ty R c
    refine ⟨.ref a, hv, .inl ⟨rfl, vs0, .inl (.inl ha)⟩, F, Z, ε, R, (After.bind h).imp (fun o ε1 k F1 H1 Z1 y S s1 R1 ow t1 => ?_) fun _ _ _ x => x⟩
    -- the value put away for good
    have R2 := R1.freeze t1.dj
    have s2 := Stp.freeze R1.sub t1.new F s1
    have ry : Rep mg P.nm (fz F1 H1 S) o.er y := Own.rep o y S ow (fz_sub R1.sub) fun b hb => fz_in hb
    have fin : ∀ ds : List D, (ε1 i = some (.ls ds) ∨ ∃ os, ε1 i = some (.lst os) ∧ ds = O.ers os) → ds.length < 16777216 → kO mg P σ F H Z Q (.im .non) (up ε1 i (.ls (ds ++ [o.er]))) → rAppend (.ref a) [y] H1 Q := fun ds e1 lt k => by
      obtain ⟨F3, Z3, ε3, a', vs, s3, u3, R3, e3, eu, ea, e4, r⟩ := own_ls s2 R2 hv e1
      cases ea
      obtain ⟨s5, R5⟩ := put_ok (ds' := ds ++ [o.er]) (vs' := vs ++ [y]) s3 R3 e3 hv (r.append (Reps.one (Rep.mono u3 _ _ ry)))
      rw [eu] at R5
      exact ⟨a, vs, y, rfl, rfl, e4, by rw [r.length, sizeLine_eq]; exact lt, k F3 _ Z3 .non [] s5 R5 ⟨rfl, rfl⟩ Tmp.nil⟩
    unfold appTo at k
    cases e1 : ε1 i with
    | none => rw [e1] at k; exact k.elim
    | some o1 =>
      rw [e1] at k
      cases o1 with
      | ls ds =>
        dsimp only at k
        split at k
        · exact fin ds (.inl e1) (by assumption) k
        · exact k.elim
      | lst os =>
        dsimp only at k
        split at k
        · refine fin _ (.inr ⟨os, e1, rfl⟩) ?_ k
          rw [ers_len]; assumption
        · exact k.elim
      | im _ => exact k.elim
      | dc _ => exact k.elim
      | tup _ => exact k.elim
  · rw [if_neg c] at h; exact h.elim
/-- name.pop(), name.pop(k) -/
theorem pop0_of {i : Nat} : ∀ σ H Q, tE mg P (.pop i []) σ H Q → tBM0 K "list" rPop (tVar i) σ H Q := by
  rintro σ H Q ⟨F, Z, ε, R, h⟩
  unfold evE at h
  by_cases c : hList ε (.slot i) = true
  · rw [if_pos c] at h
    obtain ⟨a, vs0, hv, ha⟩ := hList_ty R c
    refine ⟨.ref a, hv, .inl ⟨rfl, vs0, .inl (.inl ha)⟩, ?_⟩
    unfold evHs at h
    have h' : After (popOf ε i []) (kO mg P σ F H Z Q) (xW mg P σ F H Z) := h
    unfold popOf at h'
    cases e1 : ε i with
    | none => rw [e1] at h'; exact h'.elim
    | some o1 =>
      rw [e1] at h'
      cases o1 with
      | ls ds =>
        dsimp only at h'
        cases e2 : ds.getLast? with
        | none => rw [e2] at h'; exact h'.elim
        | some d =>
          rw [e2] at h'
          obtain ⟨F3, Z3, ε3, a', vs, s3, u3, R3, e3, eu, ea, e4, r⟩ := own_ls Stp.refl R hv (.inl e1)
          cases ea
          obtain ⟨s5, R5⟩ := put_ok (ds' := ds.dropLast) (vs' := vs.dropLast) s3 R3 e3 hv r.dropLast
          rw [eu] at R5
          rw [List.getLast?_eq_getElem?] at e2
          obtain ⟨y, hy, ry⟩ := r.get e2
          exact ⟨a, vs, y, rfl, rfl, e4, by rw [r.length]; exact hy, h' F3 _ Z3 y [] s5 R5 ⟨ry, rfl⟩ Tmp.nil⟩
      | _ => exact h'.elim
  · rw [if_neg c] at h; exact h.elim
theorem seqIx_of {i : Int} {n k : Nat} (h : ixN n i = some k) : seqIndex? i n = some k ∧ k < n ∧ -(n : Int) ≤ i ∧ i < n := by
  unfold ixN L2.ixN at h
  unfold seqIndex?
  split at h
  · split at h
    · cases h
      refine ⟨?_, by omega, by omega, by omega⟩
      simp
      omega
    · cases h
  · split at h
    · cases h
      refine ⟨?_, by omega, by omega, by omega⟩
      simp
      omega
    · cases h
theorem pop1_of {i : Nat} {x : Ex} : ∀ σ H Q, tE mg P (.pop i [x]) σ H Q → tBM K "list" rPopAt (tVar i) (tHs mg P [x]) σ H Q := by
  rintro σ H Q ⟨F, Z, ε, R, h⟩
  unfold evE at h
  by_cases c : hList ε (.slot i) = true
  · rw [if_pos c] at h
    obtain ⟨a, vs0, hv, ha⟩ := hList_ty R c
    refine ⟨.ref a, hv, .inl ⟨rfl, vs0, .inl (.inl ha)⟩, ?_⟩
    cases q : evHs P.cl P.sg [x] ε with
    | bad => rw [q] at h; exact h.elim
    | exc c v ε1 => rw [q] at h; exact ⟨F, Z, ε, R, by rw [q]; exact h⟩
    | ok hs ε1 =>
      rw [q] at h
      refine ⟨F, Z, ε, R, ?_⟩
      rw [q]
      have hl := evHs_len _ _ _ _ q
      intro F1 H1 Z1 vs S s1 R1 o1 t1
      have h' : After (match rds ε1 hs with
        | some (ds, ε2) => popOf ε2 i ds
        | none => .bad) (kO mg P σ F H Z Q) (xW mg P σ F H Z) := h
      cases q2 : rds ε1 hs with
      | none => rw [q2] at h'; exact h'.elim
      | some p =>
        obtain ⟨ks, ε2⟩ := p
        rw [q2] at h'
        obtain ⟨F2, Z2, s2, u2, R2, v2⟩ := rds_ok s1 R1 o1 t1 q2
        dsimp only at h'
        unfold popOf at h'
        split at h'
        · rename_i e1
          have := hnrs_len o1
          have e0 : vs = [] := v2
          rw [e0, hl] at this
          cases this
        · rename_i ds z e1
          split at h'
          case isFalse => exact h'.elim
          rename_i small
          cases e3 : ixN ds.length z with
          | none => rw [e3] at h'; exact h'.elim
          | some j =>
            rw [e3] at h'
            dsimp only at h'
            cases e5 : ds[j]? with
            | none => rw [e5] at h'; exact h'.elim
            | some d =>
              rw [e5] at h'
              obtain ⟨F3, Z3, ε3, a', ws, s3, u3, R3, e3', eu, ea, e4, r⟩ := own_ls s2 R2 hv (.inl e1)
              cases ea
              obtain ⟨s5, R5⟩ := put_ok (ds' := ds.eraseIdx j) (vs' := ws.eraseIdx j) s3 R3 e3' hv (r.eraseIdx j)
              rw [eu] at R5
              obtain ⟨y, hy, ry⟩ := r.get e5
              obtain ⟨g1, g2, g3, g4⟩ := seqIx_of e3
              rw [views_int v2]
              exact ⟨a, ws, z, j, y, rfl, rfl, e4, by omega, by omega, by rw [r.length]; exact g1, hy, h' F3 _ Z3 y [] s5 R5 ⟨ry, rfl⟩ Tmp.nil⟩
        · exact h'.elim
  · rw [if_neg c] at h; exact h.elim
end
end Ev
end
section
set_option linter.all false
set_option maxRecDepth 100000
set_option maxHeartbeats 4000000
/-! Assignments side by side, to a place; a list deep in a tree. -/
namespace Ev
open PySem PySem.Spec PyProof.Rows L2
section
variable {X : Cx} {P : Pm} {nm : Nm} {mg : Str → Option Value} {K : W.Frag}
theorem s_parT {is : List Nat} {es : List Ex} {L : Nat} (hb : Tg.lims (is.map Tg.name) L = true) (hz : es.length ≤ 16777216) : ∀ D σ H, σ.length = L → tSt mg P (.par is es) D σ H → tAsg (tTup (tEs mg P es)) (tgG K (.tup (is.map Tg.name))) D σ H := by
  rintro D σ H hL ⟨F, Z, ε, R, h⟩
  unfold evS at h
  refine ⟨F, Z, ε, R, (After.bind h).imp (fun os ε1 k hl F1 H1 Z1 vs S s1 R1 ow t1 => ⟨?_, fun p hp => ?_⟩) fun _ _ _ x => x.w⟩
  · rw [Owns.length ow, hl, sizeLine_eq]; exact hz
  · cases q : bindTs P.mp (is.map Tg.name) os ε1 with
    | none => rw [q] at k; exact k.elim
    | some ε2 =>
      rw [q] at k
      have dm := Owns.dom os vs S ow
      obtain ⟨a1, a2, a3, a4⟩ := laid (u := .tup vs) s1 R1 t1 dm hp
      have ow2 : Owns mg P.nm F1 (upd H1 p (.tup vs)) os vs S := Owns.mono Sub.refl os vs S ow fun b hb w e => by rw [upd_ne (ne_of_none e hp)]; exact e
      unfold tgG
      refine ⟨p, vs, rfl, .inl (.inl upd_same), (Owns.length ow).trans (bindTs_len (mg := mg) (nm := P.nm) (K := K) _ q).symm, bindTs_ok (S' := []) _ a1 a2 ow2 (by rw [List.append_nil]; exact a3.sub (List.sublist_cons_self p S)) q (by rw [hL]; exact hb) fun Z2 σ2 s2 R2 k2 _ => ?_⟩
      exact k F1 _ Z2 σ2 s2 R2 k2
theorem s_par {is : List Nat} {es : List Ex} {L : Nat} (hb : Tg.lims (is.map Tg.name) L = true) : ∀ D σ H, σ.length = L → tSt mg P (.par is es) D σ H → tEs mg P es σ H (fun vs H1 => tgGs K (is.map Tg.name) vs σ H1 D.nx) := by
  rintro D σ H hL ⟨F, Z, ε, R, h⟩
  unfold evS at h
  refine ⟨F, Z, ε, R, (After.bind h).imp (fun os ε1 k hl F1 H1 Z1 vs S s1 R1 ow t1 => ?_) fun _ _ _ x => x.w⟩
  cases q : bindTs P.mp (is.map Tg.name) os ε1 with
  | none => rw [q] at k; exact k.elim
  | some ε2 =>
    rw [q] at k
    exact bindTs_ok (S' := []) _ s1 R1 ow (by rw [List.append_nil]; exact t1) q (by rw [hL]; exact hb) fun Z2 σ2 s2 R2 k2 _ => k F1 H1 Z2 σ2 s2 R2 k2
theorem evEs_len {cl : Nat → List O → COut} {sg : Nat → List Nat} : ∀ (es : List Ex) (ε : Env) (hs : List O) (ε' : Env), evEs cl sg es ε = .ok hs ε' → hs.length = es.length
  | [], ε, hs, ε', e => by unfold evEs at e; cases e; rfl
  | x :: es, ε, hs, ε', e => by
    unfold evEs at e
    cases q : evE cl sg x ε with
    | ok h ε1 =>
      rw [q] at e
      unfold Res.bind at e
      dsimp only at e
      cases q2 : evEs cl sg es ε1 with
      | ok hs2 ε2 =>
        rw [q2] at e
        dsimp only at e
        cases e
        rw [List.length_cons, List.length_cons, evEs_len es ε1 hs2 _ q2]
      | exc _ _ _ => rw [q2] at e; cases e
      | bad => rw [q2] at e; cases e
    | exc _ _ _ => rw [q] at e; cases e
    | bad => rw [q] at e; cases e
theorem s_par2 {i j : Nat} {a b : Ex} {L : Nat} (hi : i < L) (hj : j < L) : ∀ D σ H, σ.length = L → tSt mg P (.par [i, j] [a, b]) D σ H → tPar i j (tEs mg P [a, b]) D σ H := by
  intro D σ H hL h
  obtain ⟨F, Z, ε, R, h⟩ := s_par (K := default) (by simp [Tg.lims, Tg.lim, hi, hj]) D σ H hL h
  refine ⟨F, Z, ε, R, h.imp (fun os ε' k hl F' H' Z' vs S s r o t => ?_) fun _ _ _ x => x⟩
  have q := k hl F' H' Z' vs S s r o t
  simp only [List.map_cons, List.map_nil] at q
  unfold tgGs tgG at q
  obtain ⟨v, w, rfl, q⟩ := q
  unfold tgGs tgG at q
  obtain ⟨u, z, rfl, q⟩ := q
  unfold tgGs at q
  obtain ⟨rfl, q⟩ := q
  exact ⟨v, u, rfl, q⟩
theorem s_par3 {i j l : Nat} {a b c : Ex} {L : Nat} (hi : i < L) (hj : j < L) (hl : l < L) : ∀ D σ H, σ.length = L → tSt mg P (.par [i, j, l] [a, b, c]) D σ H → tPar3 i j l (tEs mg P [a, b, c]) D σ H := by
  intro D σ H hL h
  obtain ⟨F, Z, ε, R, h⟩ := s_par (K := default) (by simp [Tg.lims, Tg.lim, hi, hj, hl]) D σ H hL h
  refine ⟨F, Z, ε, R, h.imp (fun os ε' k hl F' H' Z' vs S s r o t => ?_) fun _ _ _ x => x⟩
  have q := k hl F' H' Z' vs S s r o t
  simp only [List.map_cons, List.map_nil] at q
  unfold tgGs tgG at q
  obtain ⟨v, w, rfl, q⟩ := q
  unfold tgGs tgG at q
  obtain ⟨u, z, rfl, q⟩ := q
  unfold tgGs tgG at q
  obtain ⟨u2, z2, rfl, q⟩ := q
  unfold tgGs at q
  obtain ⟨rfl, q⟩ := q
  exact ⟨v, u, u2, rfl, q⟩
/-- name[k] = e -/
theorem s_setix {i : Nat} {k e : Ex} : ∀ D σ H, tSt mg P (.setix i k e) D σ H → tAsg (tE mg P e) (gSub (tVar i) (tH mg P k) rSetL) D σ H := by
  rintro D σ H ⟨F, Z, ε, R, h⟩
  unfold evS at h
  refine ⟨F, Z, ε, R, (After.bind h).imp (fun o ε1 kk F1 H1 Z1 y S s1 R1 ow t1 => ?_) fun _ _ _ x => x.w⟩
  by_cases c : hList ε1 (.slot i) = true
  · rw [if_pos c] at kk
    obtain ⟨a, vs0, hv, ha⟩ := hList_ty R1 c
    refine ⟨.ref a, hv, F1, Z1, ε1, R1, (After.bind kk).imp (fun hk ε2 k2 F2 H2 Z2 x Sx s2 R2 ox t2 => ?_) fun _ _ _ x => (xS.step s1 Kp.refl x).w⟩
    cases q : rd ε2 hk with
    | none => rw [q] at k2; exact k2.elim
    | some p =>
      obtain ⟨d, ε3⟩ := p
      rw [q] at k2
      dsimp only at k2
      have s12 := s1.trans s2
      -- the value beside the index' value
      have tt := Tmp.append s1 t1 s2 (Own.dom o y S ow) t2
      have t1' := (t1.step s2 (Own.dom o y S ow))
      have ow2 : Own mg P.nm F2 H2 o y S := Own.mono s2.sub o y S ow t1'.2
      have tts : Tmp H Z F2 Z2 (Sx ++ S) := ⟨List.nodup_append.mpr ⟨(List.nodup_append.mp tt.nd).2.1, (List.nodup_append.mp tt.nd).1, fun a ha b hb z => (List.nodup_append.mp tt.nd).2.2 b hb a ha z.symm⟩,
        fun a ha => tt.fr a (by simp at ha ⊢; exact ha.symm), fun a ha => tt.dj a (by simp at ha ⊢; exact ha.symm), fun a ha => tt.new a (by simp at ha ⊢; exact ha.symm)⟩
      obtain ⟨F3, Z3, s3, u3, R3, v3, t3, _⟩ := rd_ok s12 R2 ox tts q
      have ow3 : Own mg P.nm F3 H2 o y S := Own.mono u3 o y S ow2 fun _ _ _ z => z
      have R4 := R3.freeze t3.dj
      have s4 := Stp.freeze R3.sub t3.new F s3
      have ry : Rep mg P.nm (fz F3 H2 S) o.er y := Own.rep o y S ow3 (fz_sub R3.sub) fun b hb => fz_in hb
      have fin : ∀ (ds : List Ev.D) (z : Int) (j : Nat), d = .int z → (ε3 i = some (.ls ds) ∨ ∃ os, ε3 i = some (.lst os) ∧ ds = O.ers os) → ixN ds.length z = some j → kS mg P σ F H Z D .next (up ε3 i (.ls (ds.set j o.er))) → rSetL (.ref a) x y H2 (fun H3 => D.nx σ H3) := fun ds z j ed e1 ej kf => by
        subst ed
        obtain ⟨F5, Z5, ε5, a', ws, s5, u5, R5, e5, eu, ea, e4, r⟩ := own_ls s4 R4 hv e1
        cases ea
        obtain ⟨s6, R6⟩ := put_ok (ds' := ds.set j o.er) (vs' := ws.set j y) s5 R5 e5 hv (r.set (Rep.mono u5 _ _ ry) j)
        rw [eu] at R6
        exact ⟨a, ws, z, j, rfl, v3.int, e4, by rw [r.length]; exact ej, kf F5 _ Z5 σ s6 R6 Kp.refl⟩
      unfold setTo at k2
      split at k2
      · rename_i ds z e1 _
        cases ej : ixN ds.length z with
        | none => rw [ej] at k2; exact k2.elim
        | some j => rw [ej] at k2; exact fin ds z j rfl (.inl e1) ej k2
      · rename_i os z e1 _
        cases ej : ixN os.length z with
        | none => rw [ej] at k2; exact k2.elim
        | some j => rw [ej] at k2; exact fin _ z j rfl (.inr ⟨os, e1, rfl⟩) (by rw [ers_len]; exact ej) k2
      · rename_i kvs kk e1 _
        obtain ⟨w, _, ow⟩ := R3.slot i _ e1
        exact ow.elim
      · exact k2.elim
  · rw [if_neg c] at kk; exact kk.elim

/-! ### a list deep in a tree -/
def nav (H : Hp) : V → List Int → Option V
  | v, [] => some v
  | .ref a, k :: ks => match H a with
    | some (.lst vs) => match atI vs k with
      | some w => nav H w ks
      | none => none
    | some (.tup vs) => match atI vs k with
      | some w => nav H w ks
      | none => none
    | _ => none
  | _, _ :: _ => none
theorem atI_of {vs : List V} {n j : Nat} {k : Int} {w : V} (hl : vs.length = n) (h : ixN n k = some j) (e : vs[j]? = some w) : atI vs k = some w := by
  unfold atI
  rw [hl]
  have h' : L2.ixN n k = some j := h
  rw [h']
  exact e
theorem Owns.focus {F H : Hp} : ∀ {os : List O} {vs : List V} {R : List Addr} {j : Nat} {o : O}, Owns mg nm F H os vs R → R.Nodup → os[j]? = some o →
    ∃ w Sj, vs[j]? = some w ∧ Own mg nm F H o w Sj ∧ (∀ a ∈ Sj, a ∈ R) ∧ Sj.Nodup ∧ ∀ (H' : Hp) (o' : O), (∀ a ∈ R, a ∉ Sj → ∀ u, H a = some u → H' a = some u) → Own mg nm F H' o' w Sj → Owns mg nm F H' (os.set j o') vs R
  | [], vs, R, j, o, h, nd, e => by simp at e
  | o0 :: os, vs, R, 0, o, h, nd, e => by
    simp at e; subst e
    obtain ⟨v, r, S1, S2, rfl, h1, h2, rfl⟩ := h
    obtain ⟨n1, n2, n3⟩ := List.nodup_append.mp nd
    refine ⟨v, S1, rfl, h1, fun a ha => List.mem_append_left _ ha, n1, fun H' o' k ow => ⟨v, r, S1, S2, rfl, ow, Owns.mono Sub.refl os r S2 h2 fun a ha u eu => k a (List.mem_append_right _ ha) (fun z => n3 a z a ha rfl) u eu, rfl⟩⟩
  | o0 :: os, vs, R, j + 1, o, h, nd, e => by
    obtain ⟨v, r, S1, S2, rfl, h1, h2, rfl⟩ := h
    obtain ⟨n1, n2, n3⟩ := List.nodup_append.mp nd
    obtain ⟨w, Sj, e1, o1, m, nj, k⟩ := Owns.focus (j := j) h2 n2 (by simpa using e)
    refine ⟨w, Sj, by simpa using e1, o1, fun a ha => List.mem_append_right _ (m a ha), nj, fun H' o' kk ow => ⟨v, r, S1, S2, rfl, ?_, k H' o' (fun a ha hn => kk a (List.mem_append_right _ ha) hn) ow, rfl⟩⟩
    exact Own.mono Sub.refl o0 v S1 h1 fun a ha u eu => kk a (List.mem_append_left _ ha) (fun z => n3 a ha a (m a z) rfl) u eu
theorem focus {F H : Hp} : ∀ (is : List Int) {t t' : O} {v : V} {S : List Addr} {d : D}, Own mg nm F H t v S → S.Nodup → appIn is d t = some t' →
    ∃ b ws, b ∈ S ∧ nav H v is = some (.ref b) ∧ H b = some (.lst ws) ∧ ws.length < 16777216 ∧ ∀ y, Rep mg nm F d y → Own mg nm F (upd H b (.lst (ws ++ [y]))) t' v S
  | [], t, t', v, S, d, ow, nd, e => by
    cases t with
    | ls ds =>
      unfold appIn at e
      split at e
      · rename_i lt
        cases e
        obtain ⟨a, vs, rfl, e2, r, rfl⟩ := ow
        exact ⟨a, vs, by simp, rfl, e2, by rw [r.length]; exact lt, fun y ry => ⟨a, vs ++ [y], rfl, upd_same, r.append (Reps.one ry), rfl⟩⟩
      · cases e
    | _ => unfold appIn at e; cases e
  | k :: ks, t, t', v, S, d, ow, nd, e => by
    have main : ∀ (os : List O) (j : Nat) (o o' : O) (a : Addr) (vs : List V) (R : List Addr), S = a :: R → v = .ref a → Owns mg nm F H os vs R → ixN os.length k = some j → os[j]? = some o → appIn ks d o = some o' →
        ∃ b ws w, b ∈ R ∧ atI vs k = some w ∧ nav H w ks = some (.ref b) ∧ H b = some (.lst ws) ∧ ws.length < 16777216 ∧ ∀ y, Rep mg nm F d y → Owns mg nm F (upd H b (.lst (ws ++ [y]))) (os.set j o') vs R := by
      intro os j o o' a vs R eS ev h ej eo eo'
      rw [eS] at nd
      obtain ⟨w, Sj, e1, o1, m, nj, kk⟩ := Owns.focus h (List.nodup_cons.mp nd).2 eo
      obtain ⟨b, ws, hb, en, eb, lt, fin⟩ := focus ks o1 nj eo'
      refine ⟨b, ws, w, m b hb, atI_of (Owns.length h) ej e1, en, eb, lt, fun y ry => kk _ o' (fun c hc hn u eu => ?_) (fin y ry)⟩
      have ne : c ≠ b := fun z => by rw [z] at hn; exact hn hb
      rw [upd_ne ne]; exact eu
    cases t with
    | lst os =>
      unfold appIn at e
      obtain ⟨a, vs, R, rfl, e2, h, eS⟩ := ow
      cases ej : ixN os.length k with
      | none => rw [ej] at e; cases e
      | some j =>
        rw [ej] at e
        dsimp only at e
        cases eo : os[j]? with
        | none => rw [eo] at e; cases e
        | some o =>
          rw [eo] at e
          dsimp only at e
          cases eo' : appIn ks d o with
          | none => rw [eo'] at e; cases e
          | some o' =>
            rw [eo'] at e; cases e
            obtain ⟨b, ws, w, hb, ea, en, eb, lt, fin⟩ := main os j o o' a vs R eS rfl h ej eo eo'
            have ne : a ≠ b := fun z => by
              rw [eS] at nd
              rw [z] at nd
              exact (List.nodup_cons.mp nd).1 hb
            refine ⟨b, ws, by rw [eS]; exact List.mem_cons_of_mem _ hb, ?_, eb, lt, fun y ry => ⟨a, vs, R, rfl, by rw [upd_ne ne]; exact e2, fin y ry, eS⟩⟩
            unfold nav
            rw [e2]
            dsimp only
            rw [ea]
            exact en
    | tup os =>
      unfold appIn at e
      obtain ⟨a, vs, R, rfl, e2, h, eS⟩ := ow
      cases ej : ixN os.length k with
      | none => rw [ej] at e; cases e
      | some j =>
        rw [ej] at e
        dsimp only at e
        cases eo : os[j]? with
        | none => rw [eo] at e; cases e
        | some o =>
          rw [eo] at e
          dsimp only at e
          cases eo' : appIn ks d o with
          | none => rw [eo'] at e; cases e
          | some o' =>
            rw [eo'] at e; cases e
            obtain ⟨b, ws, w, hb, ea, en, eb, lt, fin⟩ := main os j o o' a vs R eS rfl h ej eo eo'
            have ne : a ≠ b := fun z => by
              rw [eS] at nd
              rw [z] at nd
              exact (List.nodup_cons.mp nd).1 hb
            refine ⟨b, ws, by rw [eS]; exact List.mem_cons_of_mem _ hb, ?_, eb, lt, fun y ry => ⟨a, vs, R, rfl, by rw [upd_ne ne]; exact e2, fin y ry, eS⟩⟩
            unfold nav
            rw [e2]
            dsimp only
            rw [ea]
            exact en
    | im _ => unfold appIn at e; cases e
    | ls _ => unfold appIn at e; cases e
    | dc _ => unfold appIn at e; cases e
def Cst.v : Cst → V
  | .non => .non
  | .bl b => .bl b
  | .int i => .int i
  | .str s => .str s
/-- a constant or a name, as it is read -/
def tV : Ex → TE
  | .cst c => tC c.v
  | .var j => tVar j
  | _ => fun _ _ _ => False
theorem tV_ok {F H : Hp} {σ : L2.St} {ε : Env} {Z : Nat → List Addr} (R : RelS mg nm F H σ ε Z) {e : Ex} {d : D} (h : rdv ε e = some d) : ∃ v, Rep mg nm F d v ∧ ∀ Q : VK, Q v H → tV e σ H Q := by
  cases e with
  | cst c =>
    unfold rdv at h
    cases h
    refine ⟨c.v, ?_, fun Q q => q⟩
    cases c <;> exact rfl
  | var j =>
    unfold rdv at h
    dsimp only at h
    cases q : ε j with
    | none => rw [q] at h; cases h
    | some o =>
      rw [q] at h
      cases o with
      | im d' =>
        cases h
        obtain ⟨v, hv, ow⟩ := R.slot j _ q
        exact ⟨v, ow.1, fun Q q => ⟨v, hv, q⟩⟩
      | _ => cases h
  | _ => unfold rdv at h; cases h
def tPth (K : W.Frag) (i : Nat) : List Ex → TE
  | [] => tVar i
  | [a] => tOp (rIx K) (tVar i) (tV a)
  | [a, b] => tOp (rIx K) (tOp (rIx K) (tVar i) (tV a)) (tV b)
  | _ => fun _ _ _ => False
theorem nav_rIx {H : Hp} {v w : V} {k : Int} {ks : List Int} {Q : VK} (h : nav H v (k :: ks) = some w) (q : ∀ u, nav H u ks = some w → Q u H) : rIx K v (.int k) H Q := by
  cases v with
  | ref a =>
    unfold nav at h
    cases e : H a with
    | none => rw [e] at h; cases h
    | some u =>
      rw [e] at h
      cases u with
      | lst vs =>
        dsimp only at h
        cases e2 : atI vs k with
        | none => rw [e2] at h; cases h
        | some u => rw [e2] at h; exact .inl ⟨a, vs, k, u, rfl, rfl, .inl (.inl e), e2, q u h⟩
      | tup vs =>
        dsimp only at h
        cases e2 : atI vs k with
        | none => rw [e2] at h; cases h
        | some u => rw [e2] at h; exact .inr (.inl ⟨a, vs, k, u, rfl, rfl, .inl (.inl e), e2, q u h⟩)
      | _ => cases h
  | _ => unfold nav at h; cases h
theorem appAt_of {i : Nat} {ps : List Ex} {e : Ex} (hp : ps.length ≤ 2) : ∀ σ H Q, tE mg P (.appAt i ps e) σ H Q → tBM K "list" rAppend (tPth K i ps) (tCons (tV e) tNil) σ H Q := by
  rintro σ H Q ⟨F, Z, ε, R, h⟩
  unfold evE at h
  cases q1 : rdvs ε ps with
  | none => rw [q1] at h; exact h.elim
  | some is =>
    cases q2 : rdv ε e with
    | none => rw [q1, q2] at h; exact h.elim
    | some d =>
      cases q3 : ε i with
      | none => rw [q1, q2, q3] at h; exact h.elim
      | some t =>
        rw [q1, q2, q3] at h
        dsimp only at h
        cases q4 : appIn is d t with
        | none => rw [q4] at h; exact h.elim
        | some t' =>
          rw [q4] at h
          obtain ⟨v, hv, ow⟩ := R.slot i t q3
          obtain ⟨b, ws, hb, en, eb, lt, fin⟩ := focus is ow (R.nd i) q4
          obtain ⟨y, ry, hy⟩ := tV_ok R q2
          have hF : F b = none := R.fr i b hb
          have last : tyV K "list" (.ref b) H ∧ tCons (tV e) tNil σ H fun xs H2 => rAppend (.ref b) xs H2 Q := by
            refine ⟨.inl ⟨rfl, ws, .inl (.inl eb)⟩, hy _ ?_⟩
            refine ⟨b, ws, y, rfl, rfl, eb, by rw [sizeLine_eq]; exact lt, ?_⟩
            refine h F (upd H b (.lst (ws ++ [y]))) Z .non [] ⟨Sub.refl, fun c o hc hz => ?_, fun c hc => ?_, fun _ z => .inl z, fun j c hc => .inr ⟨j, hc⟩⟩ ⟨fun c o hc => ?_, fun j o ej => ?_, fun j ej => ?_, R.nd, R.dj, R.fr⟩ ⟨rfl, rfl⟩ Tmp.nil
            · have ne : c ≠ b := fun z => by rw [z] at hz; exact hz i hb
              rw [upd_ne ne]; exact hc
            · by_cases z : c = b
              · rw [z, upd_same] at hc; cases hc
              · rw [upd_ne z] at hc; exact hc
            · have ne : c ≠ b := fun z => by rw [z, hF] at hc; cases hc
              rw [upd_ne ne]; exact R.sub _ _ hc
            · unfold up at ej
              by_cases q : j = i
              · subst q
                rw [if_pos rfl] at ej; cases ej
                exact ⟨v, hv, fin y ry⟩
              · rw [if_neg q] at ej
                obtain ⟨w, h1, h2⟩ := R.slot j o ej
                refine ⟨w, h1, Own.mono Sub.refl o w _ h2 fun c hc u eu => ?_⟩
                have ne : c ≠ b := fun z => by rw [z] at hc; exact R.dj j i q b hc hb
                rw [upd_ne ne]; exact eu
            · unfold up at ej
              by_cases q : j = i
              · rw [if_pos q] at ej; cases ej
              · rw [if_neg q] at ej; exact R.emp j ej
          -- the way to it
          cases ps with
          | nil =>
            unfold rdvs at q1; cases q1
            unfold nav at en
            cases en
            exact ⟨.ref b, hv, last⟩
          | cons p1 pr =>
            unfold rdvs at q1
            cases r1 : rdv ε p1 with
            | none => rw [r1] at q1; cases q1
            | some d1 =>
              rw [r1] at q1
              cases r2 : rdvs ε pr with
              | none => rw [r2] at q1; cases d1 <;> cases q1
              | some ks =>
                rw [r2] at q1
                cases d1 with
                | int k1 =>
                  cases q1
                  obtain ⟨x1, rx1, hx1⟩ := tV_ok R r1
                  have ex1 : x1 = .int k1 := rx1
                  subst ex1
                  cases pr with
                  | nil =>
                    unfold rdvs at r2; cases r2
                    refine ⟨v, hv, hx1 _ (nav_rIx en fun u hu => ?_)⟩
                    unfold nav at hu; cases hu
                    exact last
                  | cons p2 pr2 =>
                    cases pr2 with
                    | cons _ _ => simp at hp
                    | nil =>
                      unfold rdvs at r2
                      cases r3 : rdv ε p2 with
                      | none => rw [r3] at r2; cases r2
                      | some d2 =>
                        rw [r3] at r2
                        cases d2 with
                        | int k2 =>
                          unfold rdvs at r2
                          cases r2
                          obtain ⟨x2, rx2, hx2⟩ := tV_ok R r3
                          have ex2 : x2 = .int k2 := rx2
                          subst ex2
                          refine ⟨v, hv, hx1 _ (nav_rIx en fun u hu => hx2 _ (nav_rIx hu fun u2 hu2 => ?_))⟩
                          unfold nav at hu2; cases hu2
                          exact last
                        | _ => unfold rdvs at r2; cases r2
                | _ => cases q1
end
end Ev
end
section
set_option linter.all false
set_option maxRecDepth 100000
set_option maxHeartbeats 4000000
/-! Errors of one's own: made, with super().__init__(value) and self.value = value. -/
namespace Ev
open PySem PySem.Spec PyProof.Rows
section
open PySem.W PySem.Calls PySem.HandSPX
def iArgs (p1 p2 p3 : Pos) : Arguments := { posonlyargs := [], args := [{ arg := "self", annotation := none, pos := p1 }, { arg := "value", annotation := none, pos := p2 }], vararg := none, kwonlyargs := [], kw_defaults := [], kwarg := none, defaults := [.Constant .none 0 p3] }
def iBody (a1 a2 a3 a4 a5 a6 b1 b2 b3 b4 : Pos) : List Stmt := [.Expr (.Call (.Attribute (.Call (.Name "super" a1) [] [] a2) "__init__" a3) [.Name "value" a4] [] a5) a6, .Assign [.Attribute (.Name "self" b1) "value" b2] (.Name "value" b3) b4]
def iScope : Scope := { kind := .function, names := [(PySem.Str.ofString "self", .local), (PySem.Str.ofString "value", .local), (PySem.Str.ofString "__class__", .free), (PySem.Str.ofString "super", .globalImplicit)], isGenerator := false, isCoroutine := false, more := [] }
/-- what the written part says of such a class -/
structure ETxt (prog : Program) (K : Frag) (mg : Str → Option Value) (nm : Str) (C fI : Addr) : Prop where
  gC : mg nm = some (.ref C)
  cls : ∃ nn q N bs bm sn sub ab col dd k0 k1 k2 k3 k5, K.lookup C = some (excClassObj nn q C N bs bm true sn sub ab col dd k0 k1 k2 k3 k5 "ValueError.__new__") ∧ refsVE bm = true
  sa : findIn K (.ref C) "__setattr__" = some (some (.builtin "object.__setattr__"))
  noN : findIn K (.ref C) "value" = some none
  iC : findIn K (.ref C) "__init__" = some (some (.ref fI))
  tC : typeIn K (.ref fI) = some (.type "function")
  kC : keepIn K (.ref C) = true
  exC : subIn K (.ref C) (.type "BaseException") = some true
  tyC : typeIn K (.ref C) = some (.type "type")
  hdC : hasDictIn K C = true
  su : ks_superIn K C C "__init__" = some (some (.builtin "ValueError.__init__"))
  sV : subIn K (.ref C) (.type "ValueError") = some true
  mC : mroIn K C (.ref C) = some true
  noA : nsIn K cStatics "thirdparty.any" = some none
  gS : mg "super" = none
  tS : (prog.main.scope.names.lookup ("super" : Str)).isSome = false
  fn : ∃ (oc : Value) (od : Option Addr) (q : Str) (dV kV doc pm : Value) (an : Option Addr) (cda : Addr) (ct : Value) (osl : Array (Option Value)) (cc : Addr) (p1 p2 p3 a1 a2 a3 a4 a5 a6 b1 b2 b3 b4 : Pos) (ccl : Value) (cdd : Option Addr) (vs : Array Value) (ccs : Array (Option Value)) (file : Str) (tf : Tok) (cl : Value) (cld : Option Addr) (csl : Array (Option Value)),
    K.lookup fI = some ⟨oc, od, .func (ksFn "__init__" q (iArgs p1 p2 p3) (iBody a1 a2 a3 a4 a5 a6 b1 b2 b3 b4) iScope dV kV doc pm an (.ref cda) ct cc), osl⟩ ∧ codeIn K (.ref cda) q = true ∧
    K.lookup cda = some ⟨ccl, cdd, .fields vs, ccs⟩ ∧ vs[2]? = some (.str file tf) ∧ ((prog.main.file : Str) == file) = true ∧ K.lookup cc = some ⟨cl, cld, .cell (some (.ref C)), csl⟩ ∧
    (∀ env : PySem.Env, ∃ pl : Sem Bool, eval (.Call (.Attribute (.Call (.Name "super" a1) [] [] a2) "__init__" a3) [.Name "value" a4] [] a5) env = (do
      let ov ← attributeBase (.Call (.Name "super" a1) [] [] a2) "__init__" env (eval (.Call (.Name "super" a1) [] [] a2) env)
      standAt a3.atName
      let (f, first) ← holding [ov] (getMethod ov "__init__" pl)
      callWith a5 f first (backTo a5 (starEach [.Name "value" a4] env)) [])) ∧
    ∀ (s : Shared) (u v : Value), K.In s.heap → BindsTo s (ksFn "__init__" q (iArgs p1 p2 p3) (iBody a1 a2 a3 a4 a5 a6 b1 b2 b3 b4) iScope dV kV doc pm an (.ref cda) ct cc) ⟨[u, v], []⟩ [("self", u), ("value", v)]
/-- what __init__ leaves -/
structure IEnd (h h' : Heap) (x C dx t1 : Addr) (v : Value) : Prop where
  keep : ∀ b o, b ≠ x → h.get? b = some o → h'.get? b = some o
  obj : h'.get? x = some { cls := .ref C, dict := some dx, data := .fields #[.ref t1, .none, .none, .none, .bool false, .none] }
  dbig : h.objs.size ≤ dx
  dne : dx ≠ x
  ns : h'.Ns1 dx (fun y => if y = "value" then some v else none)
section
variable {prog : Program} {w : World} {A : Around} {E : Value → Shared → Prop} {R : Result → Shared → Prop} {K : Frag} {mg mb : Str → Option Value} {C fI : Addr} {nm : Str}
theorem mw_call {hp : Heap} {g : Array GenState} {d : Drawn} {t : Nat} {os : OsState} {u e t0 : Addr} {rest : List Value} {Q : Value → Shared → Prop} {nn q : Str} {N : Addr} {bs bm : List Value} {sn : List Str} {sub : List Value} {ab : Bool} {col : Option Bool} {dd : Option Addr} {k0 k1 k2 k3 k5 : Option Value}
    (hCo : hp.get? C = some (excClassObj nn q C N bs bm true sn sub ab col dd k0 k1 k2 k3 k5 "ValueError.__new__")) (hEo : hp.get? e = some (excO C t0)) (hUo : hp.get? u = some (kxs_mw "ValueError.__init__" e)) (hRe : rest.length ≤ sizeLine)
    (fin : ∀ h' t1, (∀ b o, b ≠ e → hp.get? b = some o → h'.get? b = some o) → h'.get? e = some (excO C t1) → Q .none ⟨h', g, d, t, os⟩) :
    wpAny (model prog w) A (call (.ref u) rest) Q E ⟨hp, g, d, t, os⟩ := by
  refine wpAny_call (codeAny_of_tree (A := A) ?_)
  show wpAny _ A.in1 (callAny (.ref u) ⟨rest, []⟩) _ _ _
  simp only [callAny]
  refine wpAny_bind (wpAny_load hUo ?_)
  simp only [kxs_mw, show (Value.type "method-wrapper" == Value.type "method" || Value.type "method-wrapper" == Value.type "builtin_function_or_method" || Value.type "method-wrapper" == Value.type "method-wrapper") = true from by decide, if_true]
  refine W.KFB.if_so (by decide) ?_
  refine wpAny_bind (PySem.ESX.check_bound F.excBase_ValueError hCo hEo rfl ?_)
  refine wpAny_bind (wpAny_pure (wpAny_pure ?_))
  refine ⟨Code.quiet_builtin _ (by decide +kernel), codeAny_builtin (prog := prog) (w := w) F.excBase_ValueError.initEntry ?_⟩
  rw [Around.under_plainId F.excBase_ValueError.init.plain _]
  wp_walk
  refine fin _ hp.objs.size (fun b o hb ho => ?_) ?_
  · rw [Heap.get?_update_other _ _ (Ne.symm hb)]; exact Heap.get?_push_of_some _ ho
  · rw [Heap.get?_update_self _ (Heap.get?_push_of_some _ hEo) rfl]; rfl
theorem init_run (T : ETxt prog K mg nm C fI) {s : Shared} {x t0 : Addr} {v : Value} (X : K.In s.heap) (hlim : s.heap.NoLimit) (hgl : s.heap.Ns mainGlobals mg) (hbl : s.heap.Ns builtinsNs mb) (hbs : mb "super" = some (.type "super")) (hx : s.heap.get? x = some (excO C t0)) (hnx : K.lookup x = none) (hroom : A.depth < recursionLimit)
    (fin : ∀ h' tk dx t1, IEnd s.heap h' x C dx t1 v → R (.ok (.ret .none)) { s with heap := h', toks := tk }) :
    codeAny (model prog w) A (.call (.ref fI) ⟨[.ref x, v], []⟩) R s := by
  obtain ⟨oc, od, q, dV, kV, doc, pm, an, cda, ct, osl, cc, p1, p2, p3, a1, a2, a3, a4, a5, a6, b1, b2, b3, b4, ccl, cdd, vs, ccs, file, tf, cl, cld, csl, ho, hcd, hcode, hvs, hfile, hcell, hev, hb⟩ := T.fn
  obtain ⟨nn, qc, N, bs, bm, sn, sub, ab, col, dd, k0, k1, k2, k3, k5, hC, hbm⟩ := T.cls
  have hcl : clsIn K C = some { name := nn, bases := bs, mro := .ref C :: bm, ns := N, qualname := qc, hasDict := true, slotNames := sn, subclasses := sub, abstract := ab, collection := col, hasDel := false } := by unfold clsIn; rw [hC] <;> rfl
  refine ks_codeAny_call_defAt (binds := [("self", .ref x), ("value", v)]) hroom (X _ _ ho) rfl hlim (codeRec_of X hcd) rfl (hb s (.ref x) v X) (by show ∀ y ∈ iScope.names, y.2 ≠ .cell; decide +kernel) (fun y hy => by
    have hy' : y = (PySem.Str.ofString "self", Value.ref x) ∨ y = (PySem.Str.ofString "value", v) := by simpa using hy
    rcases hy' with rfl | rfl <;> rfl) (fun h₁ hns hk₁ => ?_)
  have X₁ : K.In h₁ := X.keeps hk₁
  have hx₁ := hk₁ _ _ hx
  have hL : s.heap.objs.size ≠ x := Nat.ne_of_gt (Heap.lt_size hx)
  obtain ⟨pl, hpl⟩ := hev (callEnv (ksFn "__init__" q (iArgs p1 p2 p3) (iBody a1 a2 a3 a4 a5 a6 b1 b2 b3 b4) iScope dV kV doc pm an (.ref cda) ct cc) s.heap.objs.size fI)
  refine ks_wpAt_execs_cons (ks_wpAt_Expr_any (ks_wpAt_MethodCall (pl := pl) ?_ hpl))
  obtain ⟨oD, hD1, hD2⟩ : ∃ oD, h₁.get? C = some oD ∧ oD.data = .cls { name := nn, bases := bs, mro := .ref C :: bm, ns := N, qualname := qc, hasDict := true, slotNames := sn, subclasses := sub, abstract := ab, collection := col, hasDel := false } := ⟨_, X₁ _ _ hC, rfl⟩
  refine ks_wpAt_super_base (f := fI) (fd := ksFn "__init__" q (iArgs p1 p2 p3) (iBody a1 a2 a3 a4 a5 a6 b1 b2 b3 b4) iScope dV kV doc pm an (.ref cda) ct cc) (by rfl) (by rfl) (by decide) rfl (X₁ _ _ ho) rfl rfl rfl (X₁ _ _ hcode) rfl hvs hfile T.tS ?_
  have lv : ([(("self" : Str), Value.ref x), (("value" : Str), v)] : List (Str × Value)).reverse.lookup ("value" : Str) = some v := rfl
  have ls : ([(("self" : Str), Value.ref x), (("value" : Str), v)] : List (Str × Value)).reverse.lookup ("self" : Str) = some (.ref x) := rfl
  refine ks_loadName_global rfl (by rfl) (loadGlobal_builtin (hgl.keeps hk₁) T.gS (hbl.keeps hk₁) hbs ⟨rfl, ?_⟩)
  refine wpAny_loadName_free rfl (by rfl) rfl ⟨_, X₁ _ _ hcell, rfl⟩ ?_
  refine wpAny_loadName_local rfl (by rfl) hns ls ?_
  refine ks_wpAny_isType_cls hD1 hD2 ⟨rfl, ?_⟩
  refine ks_wpAny_call_super hD1 hD2 hx₁ rfl (fun c z => by cases z) (looks_mroIn X₁ T.mC) (fun h₂ e₂ k₂ => ?_)
  have X₂ : K.In h₂ := X₁.keeps k₂
  have I₂ : InstAt h₂ x (excO C t0) C none := ⟨k₂ _ _ hx₁, rfl, rfl, trivial⟩
  have su := T.su
  unfold ks_superIn at su
  rw [hcl] at su
  refine kxs_getMethod kxs_ValueError e₂ (looks_opaque X₂ T.noA) (l₀ := .ref C :: bm) (fun A Q E s k q => wpAny_bind ((looks_clsIn X₂ hcl) A _ E s k (wpAny_pure q))) rfl X₂ su (I₂.type.andThen (looks_subIn X₂ T.sV)) (ks_ne X₂ I₂ hcl) (by decide) ?_
  have u2 : ∀ b o, h₂.get? b = some o → (h₂.push (kxs_mw "ValueError.__init__" x)).get? b = some o := fun b o e => Heap.get?_push_of_some _ e
  have un : (h₂.push (kxs_mw "ValueError.__init__" x)).get? h₂.objs.size = some (kxs_mw "ValueError.__init__" x) := Heap.get?_push_at rfl rfl
  refine kxs_callWith (i := "ValueError.__init__") (x := x) rfl ?_
  show wpAny _ _ (evalArgs (.ref h₂.objs.size) true [(false, eval (.Name "value" a4) _)] []) _ _ _
  have hn3 := (hns.keeps k₂).keeps u2
  refine evalArgs_plain (Calls.spliced_cons (PySem.ESX.ldL hn3 lv (Calls.spliced_nil ⟨un, ?_⟩) rfl (by rfl)))
  have hx3 := u2 _ _ (k₂ _ _ hx₁)
  have X₃ : K.In (h₂.push (kxs_mw "ValueError.__init__" x)) := X₂.keeps u2
  refine mw_call (X₃ _ _ hC) hx3 un (by rw [sizeLine_eq]; show 1 ≤ 16777216; decide) (fun h₄ t₁ k₄ hx₄ => ?_)
  -- self.value = value
  have kk : ∀ b o, b ≠ x → h₁.get? b = some o → h₄.get? b = some o := fun b o hb e => k₄ b o hb (u2 _ _ (k₂ _ _ e))
  have X₄ : K.In h₄ := fun a o e => k₄ a o (fun z => by rw [z, hnx] at e; cases e) (X₃ a o e)
  obtain ⟨oL, es, ep, hLo, rL⟩ := hn3
  have hn4 : h₄.Ns s.heap.objs.size _ := ⟨oL, es, ep, k₄ _ _ hL hLo, rL⟩
  have bigger : s.heap.objs.size < h₄.objs.size := hn4.lt
  refine wpAt_of_wpAny ?_
  show wpAny _ _ (execs _ _) _ _ _
  refine wpAny_execs_cons (plainObj_wpAny_Assign_Attribute ?_)
  refine PySem.ESX.ldL hn4 lv (PySem.ESX.ldL hn4 ls ?_ rfl (by rfl)) rfl (by rfl)
  refine set_plain X₄ (ox := excO C t₁) (od := none) ⟨hx₄, rfl, rfl, trivial⟩ T.sa ?_
  refine exc_osa X₄ hx₄ hcl (show refsVE (.ref C :: bm) = true from hbm) rfl T.noN (fun h₅ tk₅ dx k₅ dn dne hx₅ hn₅ => ?_)
  show wpAny _ _ (execs _ _) _ _ _
  refine wpAny_execs_nil (fin h₅ tk₅ dx t₁ ⟨fun b o hb e => k₅ b o hb (kk b o hb (hk₁ b o e)), hx₅, Nat.le_of_lt (Nat.lt_of_lt_of_le bigger dn), dne, hn₅⟩)
/-- such an error, made -/
structure EMade (h h' : Heap) (e C d : Addr) (v : Value) : Prop where
  keep : ∀ b o, h.get? b = some o → h'.get? b = some o
  new : h.objs.size ≤ e
  obj : ∃ oe vs, h'.get? e = some oe ∧ oe.cls = .ref C ∧ oe.dict = some d ∧ oe.data = .fields vs ∧ vs[1]? = some .none
  dbig : h.objs.size ≤ d
  dne : d ≠ e
  ns : h'.Ns1 d (fun y => if y = "value" then some v else none)
theorem made (T : ETxt prog K mg nm C fI) {s : Shared} {v : Value} (X : K.In s.heap) (hlim : s.heap.NoLimit) (hgl : s.heap.Ns mainGlobals mg) (hbl : s.heap.Ns builtinsNs mb) (hbs : mb "super" = some (.type "super")) (hroom : A.depth + 1 < recursionLimit)
    (fin : ∀ h' tk e d, EMade s.heap h' e C d v → R (.ok (.ret (.ref e))) { s with heap := h', toks := tk }) : codeAny (model prog w) A (.call (.ref C) ⟨[v], []⟩) R s := by
  obtain ⟨nn, qc, N, bs, bm, sn, sub, ab, col, dd, k0, k1, k2, k3, k5, hC, hbm⟩ := T.cls
  obtain ⟨hp, g, dr, tk, os⟩ := s
  have up : ∀ b o, hp.get? b = some o → ((hp.push (kdv_tup [v])).push (excO C hp.objs.size)).get? b = some o := fun b o e => Heap.get?_push_of_some _ (Heap.get?_push_of_some (h := hp) _ e)
  have at1 : ((hp.push (kdv_tup [v])).push (excO C hp.objs.size)).get? (hp.objs.size + 1) = some (excO C hp.objs.size) := by heap_get
  have out : K.lookup (hp.objs.size + 1) = none := by
    cases e : K.lookup (hp.objs.size + 1) with
    | none => rfl
    | some o => exact absurd (Nat.lt_of_succ_lt (Heap.lt_size (show hp.get? (hp.objs.size + 1) = some o from X _ _ e))) (Nat.lt_irrefl _)
  refine call_own F.excBase_ValueError (fun Y => refsVE_contains Y bm hbm) (X _ _ hC) (looks_findIn X T.iC) (fun self => bind_fn X self T.tC) (by rw [sizeLine_eq]; show 1 ≤ 16777216; decide) ?_
  refine init_run (s := ⟨(hp.push (kdv_tup [v])).push (excO C hp.objs.size), g, dr, tk, os⟩) T (X.keeps up) (hlim.keeps up) (hgl.keeps up) (hbl.keeps up) hbs at1 out (show A.depth + 1 < recursionLimit from hroom) fun h' tk' dx t1 ⟨k', hx, dn, dne, hns⟩ => ?_
  have old : ∀ b o, hp.get? b = some o → h'.get? b = some o := fun b o e => k' b o (Nat.ne_of_lt (Nat.lt_succ_of_lt (Heap.lt_size e))) (up b o e)
  have big : hp.objs.size ≤ dx := by
    refine Nat.le_trans ?_ dn
    show hp.objs.size ≤ ((hp.push (kdv_tup [v])).push (excO C hp.objs.size)).objs.size
    rw [Heap.size_push, Heap.size_push]
    omega
  exact ⟨rfl, fin h' tk' (hp.objs.size + 1) dx ⟨old, Nat.le_succ _, ⟨_, _, hx, rfl, rfl, rfl, rfl⟩, big, dne, hns⟩⟩
end
end
end Ev
namespace Ev
open PySem PySem.Spec PyProof.Rows L2
theorem relO_val {v : V} {u : Value} (r : RelV v u) (f : Str) : RelO (List.lookup f [(("value" : Str), v)]) (if f = "value" then some u else none) := by
  by_cases c : f = "value"
  · subst c
    rw [if_pos rfl, show List.lookup ("value" : Str) [(("value" : Str), v)] = some v from by simp [List.lookup]]
    exact r
  · have e : (f == ("value" : Str)) = false := by simpa using c
    rw [if_neg c, show List.lookup f [(("value" : Str), v)] = none from by simp [List.lookup, e]]
    trivial
section
variable {X : Cx} {C fI : Addr} {nm : Str}
/-- nm(e) -/
def tMkE (C : Addr) (ta : TA) : L2.St → Hp → XK → Prop := fun σ H Q => ta σ H fun vs H1 => ∃ v, vs = [v] ∧ ∀ d, H1 d = none → Q (.ref C) (some d) (upd H1 d (.xd [(("value" : Str), v)]))
theorem pmk_E {a : Expr} {ta : TA} {p pos : Pos} {k : Nat} (T : ETxt X.prog X.K X.mg nm C fI) (hr : Room k X.A) (ha : PA X [a] ta) (hg : L2.Gl X nm) (hd : (nm == ("__debug__" : Str)) = false)
    (he : starEach (a :: []) X.env = (false, eval a X.env) :: starEach [] X.env) : PMk X (.Call (.Name nm p) [a] [] pos) (tMkE C ta) := by
  intro pins s σ H Q I h
  refine wpAny_Call_Name_kw (ld_glob I hg T.gC ?_ hd)
  refine PySem.W.callWith_K (h₀ := X.base) I.ok.mod.kin T.kC (thn (ha.run pos pins s σ H _ I h) fun us s1 hh => ?_) he rfl
  obtain ⟨vs, H1, I1, r1, v, ev, q1⟩ := hh
  subst ev
  refine ⟨I1.kIn, ?_⟩
  cases r1 with
  | cons rv rn =>
    rename_i u us'
    cases rn
    show wpAny _ _ (call (.ref C) [u]) _ _ _
    have hlim := I1.nolimit
    obtain ⟨mb, hb1, hb2⟩ := I1.ok.mod.blt
    have hbs : mb "super" = some (.type "super") := (hb2 "super" (by decide)).trans (by decide +kernel)
    have hgl := I1.ok.mod.glob.keeps I1.bk
    have hbl := hb1.keeps I1.bk
    obtain ⟨hp, g, dr, tk, os⟩ := s1
    refine wpAny_call (made T I1.kIn hlim hgl hbl hbs (by have := hr.dp; omega) fun h' tk' e d M => ?_)
    show MkP X pins σ Q (.ref e) ⟨h', g, dr, tk', os⟩
    obtain ⟨oe, fv, hoe, hcl, hdi, hdat, h1⟩ := M.obj
    have hns := M.ns
    -- the heap without the error
    obtain ⟨G, g1, g2⟩ := restrict h' fun b => decide (b ≠ e)
    have off : ∀ b, b ≠ e → G.get? b = h'.get? b := fun b hb => g1 b (decide_eq_true hb)
    have none_e : G.get? e = none := g2 e (by simp)
    have old : ∀ b o, hp.get? b = some o → G.get? b = some o := fun b o q => (off b (Nat.ne_of_lt (Nat.lt_of_lt_of_le (Heap.lt_size q) M.new))).trans (M.keep b o q)
    have od : ObjOk X.prog X.w (upd H1 d (.xd [(("value" : Str), v)])) G d (.xd [(("value" : Str), v)]) := ⟨_, hns.at (fun o q => (off d M.dne).trans q), fun f => relO_val rv f⟩
    have J : Inv X pins σ (upd H1 d (.xd [(("value" : Str), v)])) ⟨G, g, dr, tk', os⟩ := I1.laid (t' := tk') old M.dbig od
    refine ⟨e, oe, fv, ⟨G, g, dr, tk', os⟩, _, .ref C, some d, rfl, J, fun b o q => ?_, none_e, hoe, ⟨hcl, hdi⟩, hdat, h1, ?_, rfl, I1.bare, raises_own T.exC T.tyC, q1 d (I1.hok.fresh M.dbig)⟩
    · by_cases hb : b = e
      · have q' : G.get? b = some o := q
        rw [hb, none_e] at q'; cases q'
      · exact (off b hb).symm.trans q
    · rw [upd_ne (Ne.symm M.dne)]
      exact I1.hok.fresh M.new
end
section
variable {X : Cx} {P : Pm} {T : Tab} {n : Nat} {pn : Nat → List Str} {kt : Nat → List (List Str × List Nat)} {mg : Str → Option Value}
/-- raise nm(e) -/
theorem s_rse {c : Nat} {e : Ex} {C : Addr} (hC : mg (P.nm.cls c) = some (.ref C)) : ∀ D σ H, tSt mg P (.rse c e) D σ H → tMkE C (tCons (tE mg P e) tNil) σ H (fun cls d H' => P.W cls d σ H') := by
  rintro D σ H ⟨F, Z, ε, R, h⟩
  unfold evS at h
  refine ⟨F, Z, ε, R, (After.bind h).imp (fun o ε1 k F1 H1 Z1 v S s1 R1 ow t1 => ⟨v, rfl, fun d hd => ?_⟩) fun _ _ _ x => x.w⟩
  have k' : xS mg P σ F H Z c o.er ε1 := k
  have R2 := R1.freeze t1.dj
  have s2 := Stp.freeze R1.sub t1.new F s1
  have rp : Rep mg P.nm (fz F1 H1 S) o.er v := Own.rep o v S ow (fz_sub R1.sub) fun b hb => fz_in hb
  obtain ⟨l1, l2, l3, l4⟩ := laid (u := .xd [(("value" : Str), v)]) s2 R2 Tmp.nil (fun a ha => by cases ha) hd
  exact k' _ _ Z1 σ C d v l1 l2 Kp.refl hC (s1.dom d hd) upd_same rp
end
end Ev
end
section
set_option linter.all false
set_option maxRecDepth 100000
set_option maxHeartbeats 4000000
/-! An error caught and kept: try: call / except Base as n: m = n. -/
namespace Ev
open PySem PySem.Spec PyProof.Rows L2
section
variable {X : Cx} {pins : List (Addr × Obj)} {σ : L2.St} {H : Hp} {s : Shared}
/-- an object that was not there at the entry, tracked from now on by what it is -/
theorem tracked (I : Inv X pins σ H s) {a : Addr} {o : Obj} (ha : s.heap.get? a = some o) (na : H a = none) (n0 : X.s_0.heap.get? a = none) (nL : a ≠ X.env.locals) (nC : ∀ x c, X.env.cells.lookup x = some c → c ≠ a) (nP : ∀ p ∈ X.pn ++ pins, p.1 ≠ a) :
    Inv X pins σ (upd H a (.ext fun h => h.get? a = some o)) s := by
  have off : ∀ {b : Addr} {u : HO}, H b = some u → upd H a (.ext fun h => h.get? a = some o) b = some u := fun {b u} e => by rw [upd_ne (ne_of_none e na)]; exact e
  refine ⟨I.ok, I.os, I.bare, ⟨I.base.keep, I.base.slot, fun b u e n hx => ?_, I.base.there, fun b xs e => off (I.base.tups b xs e), fun b u v e => off (I.base.frzs b u v e), fun b ps e => ?_⟩, I.loc, I.cell, ?_, fun x c e => ?_, fun p hp => ?_, fun b u e => ?_, I.len⟩
  · have ne : b ≠ a := fun z => by rw [z, n0] at e; cases e
    rw [upd_ne ne]; exact I.base.free b u e n hx
  · obtain ⟨m, q⟩ := I.base.tbls b ps e
    exact ⟨m, off q⟩
  · rw [upd_ne (Ne.symm nL)]; exact I.free
  · rw [upd_ne (nC x c e)]; exact I.freeC x c e
  · obtain ⟨q1, q2, q3⟩ := I.pin p hp
    exact ⟨q1, by rw [upd_ne (nP p hp)]; exact q2, q3⟩
  · by_cases hb : b = a
    · subst hb
      rw [upd_same] at e; cases e
      exact ⟨ha, ⟨o, ha⟩, fun h1 h2 q k => k _ q⟩
    · rw [upd_ne hb] at e
      exact (I.hok b u e).stay (fun _ _ _ q => q) (fun c q => off q) fun c xs q => off q
end
/-- what the clause wishes of an error of the body -/
def wM (K : W.Frag) (c : Value) (i m : Nat) (D : Ends) : WX := fun cls d σ H => W.exmOne K cls c = some true ∧ ∀ (a : Addr) (oe : Obj), H a = none → oe.cls = cls → oe.dict = d → (∃ vs, oe.data = .fields vs) →
  D.nx (((σ.set i (some (.ref a))).set m (some (.ref a))).set i none) (upd H a (.ext fun h => h.get? a = some oe))
section
variable {X : Cx} {x n y : Str} {c : Value} {i m : Nat} {body : List Stmt} {np p1 p2 p3 pos pos' : Pos} {tb : WX → TS}
theorem ps_tryM (hst : X.stack = X.env :: X.outer) (hex : X.ex = []) (hfr : X.env.frame = some X.env.locals) (hN : X.N.Nodup) (hi : X.N[i]? = some n) (hm : X.N[m]? = some y) (hln : X.env.kindOf n = some .local) (hlm : X.env.kindOf y = some .local) (him : i ≠ m)
    (hc : L2.Names X x c) (hd : (n == ("__debug__" : Str)) = false) (hcd : (n == ("__classdict__" : Str)) = false)
    (hb : ∀ (W : WX) (pn : List (Addr × Obj)) (xe : Value → Shared → Prop), Takes (X.tr pn xe) W → PSs (X.tr pn xe) body (tb W)) :
    PS X (.Try body [.ExceptHandler (some (.Name x np)) (some n) [.Assign [.Name y p1] (.Name n p2) p3] pos'] [] [] pos) (fun D σ H => tb (wM X.K c i m D) D σ H) := by
  refine ⟨fun pins s σ H D I h => ?_⟩
  have okX := I.ok
  have frA : X.A.frames = some (X.env :: X.outer) := by rw [okX.frames, hst]
  refine wpAny_Try_except ?_
  let after : Value → Shared → Prop := fun e s₁ => wpAny (model X.prog X.w) X.A (noteFrame e X.env) (fun _ s₂ => wpAny (model X.prog X.w) X.A (setFlight e none) (fun _ s₃ =>
    wpAny (model X.prog X.w) X.A (handleBy e X.env [.ExceptHandler (some (.Name x np)) (some n) [.Assign [.Name y p1] (.Name n p2) p3] pos']) (SP X pins D) X.xe s₃) X.xe s₂) X.xe s₁
  have tk : Takes (X.tr (X.pn ++ pins) after) (wM X.K c i m D) := by
    intro u s' got
    obtain ⟨a, B, sI, pins', σ', H', cls, d, rfl, Jt, news, up, sky, na, os, ag, he1, he2⟩ := got
    have JI : Inv X pins σ' H' sI := Jt.ofTry okX
    have sky1 : Sky B (X.env :: X.outer) a (Zc cls d) X.env.locals s'.heap := by rw [← hst]; exact sky
    show wpAny (model X.prog X.w) X.A (noteFrame (.ref a) X.env) _ _ _
    refine Sky.land Zc.steady frA hfr sky1 fun g fa ua => ?_
    have Ja : Inv X pins σ' H' { s' with heap := g } := JI.landed news fa.1 (up.trans ua) os ag
    obtain ⟨o1, v1, e1, z1, d1⟩ := fa.there
    -- it is no frame, and new
    have notF : a ∉ frs (X.env :: X.outer) := fun hm => by
      obtain ⟨_, o', e', no⟩ := fa.2.2.1.mem hm
      rw [e1] at e'; cases e'
      exact no _ d1
    have nL : a ≠ X.env.locals := fun z => notF (List.mem_filterMap.mpr ⟨X.env, List.mem_cons_self, by rw [hfr, z]⟩)
    have nF : a ∉ X.fs := fun hm => by
      obtain ⟨fe, he, q⟩ := List.mem_filterMap.mp hm
      exact notF (List.mem_filterMap.mpr ⟨fe, List.mem_cons_of_mem _ he, q⟩)
    have new : sI.heap.get? a = none := by
      cases q : sI.heap.get? a with
      | none => rfl
      | some o =>
        have q2 := news a o q (by rw [hst]; exact notF)
        rw [fa.2.1] at q2; cases q2
    have n0 : X.s_0.heap.get? a = none := by
      cases q : X.s_0.heap.get? a with
      | none => rfl
      | some o =>
        obtain ⟨o', q2⟩ := JI.base.there a o q (by rw [hex]; simp)
        rw [new] at q2; cases q2
    have nP : ∀ p ∈ X.pn ++ pins, p.1 ≠ a := fun p hp z => by
      have q := (JI.pin p hp).1
      rw [z, new] at q; cases q
    have S1 := Ja.suite e1 d1 na nL nF
    refine wpAny_handleBy_cons (codeAny_handlers_test ?_) (by intro q; cases q)
    have ty1 : W.Looks (model X.prog X.w) g (typeOf (.ref a)) cls := fun A Q E s k q => wpAny_typeOf_ref (k _ _ e1) (by rw [z1.1]; exact q)
    have hit := W.exm_one (M := model X.prog X.w) Ja.kIn ty1 he1
    obtain ⟨hg, hdb, hx⟩ := hc
    have named : ∀ {Q : Value → Shared → Prop} {E : Value → Shared → Prop}, Q c { s' with heap := g } → wpAny (model X.prog X.w) (X.A.mark (some (.ref a))) (eval (.Name x np) X.env) Q E { s' with heap := g } := fun {Q E} q => by
      rcases hx with hx | ⟨hx, hv, hnn⟩
      · exact ld_glob (X := X.suite a ((a, o1) :: (X.pn ++ pins))) S1 hg hx q hdb
      · exact ld_blt (X := X.suite a ((a, o1) :: (X.pn ++ pins))) S1 hg hx hv q hnn hdb
    refine named (hit.here ?_)
    refine codeAny_handlers_suite_as ?_
    refine HandSPX.lands_againZ fa fun g2 fb ub => ?_
    have Jb : Inv X pins σ' H' { s' with heap := g2 } := JI.landed news fb.1 ((up.trans ua).trans ub) os ag
    obtain ⟨o2, v2, e2, z2, d2⟩ := fb.there
    have S2 := Jb.suite e2 d2 na nL nF
    refine store_ok (X := X.suite a ((a, o2) :: (X.pn ++ pins))) (v := .ref a) S2 hN hi (.inl hln) rfl (fun s5 S5 => ?_) (.inr hln)
    let σ1 := σ'.set i (some (V.ref a))
    let D5 : Ends := { nx := fun σ6 H6 => σ6 = σ1.set m (some (.ref a)) ∧ H6 = H', rt := fun _ _ => False }
    have li : i < σ'.length := by
      rw [Jb.len]
      exact (List.getElem?_eq_some_iff.mp hi).1
    have body5 : PSs (X.suite a ((a, o2) :: (X.pn ++ pins))) [.Assign [.Name y p1] (.Name n p2) p3] (tSeq (tAsg (tVar i) (gName m)) tNext) := pss_cons (ps_set (i := m) (hf := .inr hlm) hN hm (.inl hlm) (pe_var hi (.inl hln) hd hcd)) pss_nil
    refine wpAny_mono (body5.run [] s5 σ1 H' D5 S5 ⟨.ref a, by simp [σ1, li], rfl, rfl⟩) (fun f s6 got => ?_) (fun _ _ z => z.elim)
    cases f with
    | next =>
      obtain ⟨σ6, H6, S6, rfl, rfl⟩ := got
      have at6 := (S6.pin (a, o2) (List.mem_append_left _ List.mem_cons_self)).1
      have J6 : Inv X pins (σ1.set m (some (.ref a))) H6 s6 := S6.unsuite okX
      have nC : ∀ x c, X.env.cells.lookup x = some c → c ≠ a := fun x c ec z => by
        obtain ⟨w, o', q1, q2⟩ := J6.cell x c ec
        rw [z, at6] at q1; cases q1
        rw [d2] at q2; cases q2
      have J7 := tracked J6 at6 na n0 nL nC nP
      refine gone_ok J7 hN hi hln fun s7 J8 => ⟨_, _, J8, he2 a o2 na z2.1 z2.2 ⟨_, d2⟩⟩
    | brk => obtain ⟨_, _, _, q⟩ := got; exact q.elim
    | cont => obtain ⟨_, _, _, q⟩ := got; exact q.elim
    | ret u => obtain ⟨_, _, _, _, _, q⟩ := got; exact q.elim
  refine wpAny_mono ((hb (wM X.K c i m D) (X.pn ++ pins) after tk).run [] s σ H D (I.toTry _) h) (fun f s1 got => ?_) (fun e s1 he => he)
  cases f with
  | next => obtain ⟨σ', H', J', q⟩ := got; exact wpAny_execs_nil ⟨σ', H', J'.ofTry okX, q⟩
  | brk => obtain ⟨σ', H', J', q⟩ := got; exact ⟨σ', H', J'.ofTry okX, q⟩
  | cont => obtain ⟨σ', H', J', q⟩ := got; exact ⟨σ', H', J'.ofTry okX, q⟩
  | ret u => obtain ⟨v', σ', H', J', r', q⟩ := got; exact ⟨v', σ', H', J'.ofTry okX, r', q⟩
end
end Ev
end
section
set_option linter.all false
set_option maxRecDepth 100000
set_option maxHeartbeats 4000000
/-! Errors: kept values; the clause, by the evaluator. -/
namespace Ev
open PySem PySem.Spec PyProof.Rows L2
section
variable {X : Cx} {P : Pm} {nm : Nm} {mg : Str → Option Value} {K : W.Frag}
mutual
theorem Own.seq {F H : Hp} : ∀ (o : O) (v : V) (S : List Addr), Own mg nm F H o v S → ∀ a ∈ S, ∃ vs, H a = some (.lst vs) ∨ H a = some (.tup vs)
  | .im d, v, S, h, a, ha => by rw [h.2] at ha; cases ha
  | .ls ds, v, S, h, a, ha => by
    obtain ⟨b, vs, e, q, r, rfl⟩ := h
    have : a = b := by simpa using ha
    subst this
    exact ⟨_, .inl q⟩
  | .dc _, _, _, h, _, _ => h.elim
  | .lst os, v, S, h, a, ha => by
    obtain ⟨b, vs, R, e, q, r, rfl⟩ := h
    rcases List.mem_cons.mp ha with rfl | ha
    · exact ⟨_, .inl q⟩
    · exact Owns.seq os vs R r a ha
  | .tup os, v, S, h, a, ha => by
    obtain ⟨b, vs, R, e, q, r, rfl⟩ := h
    rcases List.mem_cons.mp ha with rfl | ha
    · exact ⟨_, .inr q⟩
    · exact Owns.seq os vs R r a ha
theorem Owns.seq {F H : Hp} : ∀ (os : List O) (vs : List V) (S : List Addr), Owns mg nm F H os vs S → ∀ a ∈ S, ∃ vs, H a = some (.lst vs) ∨ H a = some (.tup vs)
  | [], _, _, h, a, ha => by rw [h.2] at ha; cases ha
  | o :: os, vs, S, h, a, ha => by
    obtain ⟨v, r, S1, S2, e, h1, h2, rfl⟩ := h
    rcases List.mem_append.mp ha with q | q
    · exact Own.seq o v S1 h1 a q
    · exact Owns.seq os r S2 h2 a q
end
theorem RelS.seq {F H : Hp} {σ : L2.St} {ε : Env} {Z : Nat → List Addr} (R : RelS mg nm F H σ ε Z) {i : Nat} {a : Addr} (h : a ∈ Z i) : ∃ vs, H a = some (.lst vs) ∨ H a = some (.tup vs) := by
  cases e : ε i with
  | none => rw [R.emp i e] at h; cases h
  | some o =>
    obtain ⟨v, _, w⟩ := R.slot i o e
    exact Own.seq o v _ w a h
/-- try: e / except .. as n: m = n, by the evaluator -/
theorem s_tryM {e : Ex} {c m i : Nat} {cv : Value} {L : Nat} (hi : i < L) (hm : m < L) (all : ∀ k C, mg (P.nm.cls k) = some (.ref C) → W.exmOne K (.ref C) cv = some true) :
    ∀ D σ H, σ.length = L → tSt mg P (.tryM e c m i) D σ H → tSeq (tDrop (tE mg { P with W := wM K cv i m D } e)) tNext D σ H := by
  rintro D σ H hL ⟨F, Z, ε, R, h⟩
  unfold evS at h
  by_cases cc : (P.mp.contains m || P.mp.contains i || m == i) = true
  · rw [if_pos cc] at h; exact h.elim
  rw [if_neg cc] at h
  simp only [Bool.or_eq_true, not_or, Bool.not_eq_true] at cc
  obtain ⟨⟨c1, c2⟩, c3⟩ := cc
  have hmi : m ≠ i := by simpa using c3
  refine ⟨F, Z, ε, R, ?_⟩
  show After (evE P.cl P.sg e ε) _ _
  cases q : evE P.cl P.sg e ε with
  | bad => rw [q] at h; exact h.elim
  | ok o ε1 =>
    rw [q] at h
    intro F1 H1 Z1 v S s1 R1 ow t1
    exact h F1 H1 Z1 σ s1 R1 Kp.refl
  | exc k v ε1 =>
    rw [q] at h
    have h' : kS mg P σ F H Z D .next (clr i (up ε1 m (.im (.exc k v)))) := h
    intro F1 H1 Z1 C dx w s1 R1 hC hdx0 hdx rw'
    refine ⟨all k C hC, fun a oe na ec ed ef => ?_⟩
    have R1 : RelS mg P.nm F1 H1 σ ε1 Z1 := R1
    have Fa : F1 a = none := by
      cases z : F1 a with
      | none => rfl
      | some u => rw [R1.sub _ _ z] at na; cases na
    have adx : a ≠ dx := fun z => by rw [z, hdx] at na; cases na
    have nz : ∀ j, a ∉ Z1 j := fun j hj => by
      obtain ⟨u, z⟩ := R1.dom hj
      rw [na] at z; cases z
    have nd : ∀ j, dx ∉ Z1 j := fun j hj => by
      obtain ⟨vs, z | z⟩ := R1.seq hj <;> (rw [hdx] at z; cases z)
    have sub1 : Sub F1 (upd H1 a (.ext fun h => h.get? a = some oe)) := R1.sub.laid2 Fa
    have G : Sub F1 (fz F1 (upd H1 a (.ext fun h => h.get? a = some oe)) [a, dx]) := fz_sub sub1
    refine h' (fz F1 (upd H1 a (.ext fun h => h.get? a = some oe)) [a, dx]) _ (fun j => if j = m ∨ j = i then [] else Z1 j) _ ⟨s1.sub.trans G, fun b u eb hz => ?_, fun b eb => ?_, fun b eb => ?_, fun j b hb => ?_⟩
      ⟨fz_sub2 sub1, fun j o ej => ?_, fun j ej => ?_, fun j => ?_, fun j l hjl b hb hb2 => ?_, fun j b hb => ?_⟩ ⟨by simp, fun j hj => ?_⟩
    · have ne : b ≠ a := fun z => by
        have := s1.dom a na
        rw [z, this] at eb; cases eb
      rw [upd_ne ne]; exact s1.keep b u eb hz
    · by_cases z : b = a
      · rw [z, upd_same] at eb; cases eb
      · rw [upd_ne z] at eb; exact s1.dom b eb
    · by_cases z : b = a
      · rw [z]; exact .inr (.inl (s1.dom a na))
      · by_cases z2 : b = dx
        · rw [z2]; exact .inr (.inl hdx0)
        · rw [fz_out (by simp [z, z2])] at eb
          exact s1.newF b eb
    · split at hb
      · cases hb
      · exact s1.newZ j b hb
    · unfold clr at ej
      by_cases z : j = i
      · rw [if_pos z] at ej; cases ej
      · rw [if_neg z] at ej
        unfold up at ej
        by_cases z2 : j = m
        · rw [if_pos z2] at ej; cases ej
          rw [if_pos (.inl z2)]
          refine ⟨.ref a, ?_, ⟨a, oe, dx, w, C, rfl, by rw [fz_in (by simp), upd_same], hC, ⟨ec, ed, ef⟩, by rw [fz_in (by simp), upd_ne (Ne.symm adx)]; exact hdx, Rep.mono G _ _ rw'⟩, rfl⟩
          subst z2
          rw [List.getElem?_set_ne (Ne.symm z), List.getElem?_set_self (by simp; rw [hL]; exact hm)]
        · rw [if_neg z2] at ej
          obtain ⟨x, h1, h2⟩ := R1.slot j o ej
          refine ⟨x, by rw [List.getElem?_set_ne (Ne.symm z), List.getElem?_set_ne (Ne.symm z2), List.getElem?_set_ne (Ne.symm z)]; exact h1, ?_⟩
          rw [if_neg (by simp [z, z2])]
          exact Own.mono G o x _ h2 fun b hb u eb => by
            have ne : b ≠ a := fun z => by rw [z] at hb; exact nz j hb
            rw [upd_ne ne]; exact eb
    · by_cases z : j = m ∨ j = i
      · rw [if_pos z]
      · rw [if_neg z]
        unfold clr at ej
        rw [if_neg (fun y => z (.inr y))] at ej
        unfold up at ej
        rw [if_neg (fun y => z (.inl y))] at ej
        exact R1.emp j ej
    · split
      · exact List.nodup_nil
      · exact R1.nd j
    · split at hb
      · cases hb
      · split at hb2
        · cases hb2
        · exact R1.dj j l hjl b hb hb2
    · split at hb
      · cases hb
      · have n1 : b ≠ a := fun z => by rw [z] at hb; exact nz j hb
        have n2 : b ≠ dx := fun z => by rw [z] at hb; exact nd j hb
        rw [fz_out (by simp [n1, n2])]
        exact R1.fr j b hb
    · have n1 : i ≠ j := fun z => by
        subst z
        have := c2
        rw [List.contains_iff_mem.mpr hj] at this; cases this
      have n2 : m ≠ j := fun z => by
        subst z
        have := c1
        rw [List.contains_iff_mem.mpr hj] at this; cases this
      rw [List.getElem?_set_ne n1, List.getElem?_set_ne n2, List.getElem?_set_ne n1]
/-- the errors of the table -/
structure GE (X : Cx) (P : Pm) (cv : Value) : Prop where
  exs : ∀ c C, X.mg (P.nm.cls c) = some (.ref C) → ∃ fI, ETxt X.prog X.K X.mg (P.nm.cls c) C fI
  all : ∀ k C, X.mg (P.nm.cls k) = some (.ref C) → W.exmOne X.K (.ref C) cv = some true
  apart : Apart X.K X.mg P.nm
/-- mark.value -/
theorem pe_val {cv : Value} {e : Expr} {te : TE} {pos : Pos} (G : GE X P cv) (he : PE X e te) (hb : attributeBase e "value" X.env (eval e X.env) = eval e X.env) : PE X (.Attribute e "value" pos) (tVal (mg := X.mg) (nm := P.nm) te) := by
  refine ⟨fun pins s σ H Q I h => ?_⟩
  refine attr_of hb (thn (he.run pins s σ H _ I h) fun u s1 hh => ?_)
  obtain ⟨x, H1, I1, rx, a, dx, C, oe, v, rfl, ea, z, ed, ⟨c, hC⟩, q⟩ := hh
  cases (show u = Value.ref a from rx)
  obtain ⟨fI, T⟩ := G.exs c C hC
  obtain ⟨A1, _⟩ := G.apart c c C C hC hC
  obtain ⟨od, J, mA, hl, hr⟩ := exc_inst I1 ea z ed
  have l : List.lookup ("value" : Str) [(("value" : Str), v)] = some v := by simp [List.lookup]
  obtain ⟨u, hu, ru⟩ := RelO.some_of (v := v) (o := mA "value") (by rw [← l]; exact hr "value")
  exact HandSPX.exc_get I1.kIn J A1.hga A1.hgt T.exC (PySem.W.findObj_own T.hdC T.noN rfl (by rw [hl, hu])) (handed_of ru) ⟨v, H1, I1.tok _, ru, q⟩
end
end Ev
end
section
set_option linter.all false
set_option maxRecDepth 100000
set_option maxHeartbeats 4000000
/-! The words that a printed proof uses. -/
namespace Ev
open PySem PySem.Spec PyProof.Rows L2
def bltN : List Str := ["len", "isinstance", "int", "bool", "list", "tuple", "sorted", "max", "min", "sum", "abs", "repr", "str", "range", "enumerate", "super", "dict", "all", "any", "set"]
/-- a module, as the tables name it -/
structure Md where
  T : Tab
  nm : Nm
  pn : Nat → List Str
  kt : Nat → List (List Str × List Nat)
  it : Nat → Option Int
  nc : Nat
  bs : Str
structure GA (X : Cx) (P : Pm) (M : Md) (n : Nat) : Prop where
  gx : GX X P M.T n M.pn M.kt
  hnm : P.nm = M.nm
  blt : ∀ x ∈ bltN, X.mg x = none
  nums : ∀ x i, M.it x = some i → ∃ t, X.mg (M.nm.int x) = some (.int i t)
  clsx : ∀ c, c < M.nc → ∃ C, X.mg (M.nm.cls c) = some (.ref C)
  base : ∃ cv, X.mg M.bs = some cv ∧ GE X P cv
theorem CallR.or {X : Cx} {f : Value} {r r' : List V → Hp → VK → Prop} (h : CallR X f r) (h' : CallR X f r') : CallR X f (fun xs H Q => r xs H Q ∨ r' xs H Q) :=
  fun pins s σ H xs us Q I v q => q.elim (h pins s σ H xs us Q I v) (h' pins s σ H xs us Q I v)
section
variable {X : Cx} {P : Pm} {M : Md} {n : Nat} {x y : Str} {p p1 p2 p3 pos pos2 : Pos} {a b c e : Expr} {es : List Expr} {xa xb xc xe : Ex} {xs : List Ex} {i j k : Nat}
/-! ### names, constants -/
theorem hV (i : Nat) (hN : X.N[i]? = some x := by rfl) (hv : Vis X.env.scope x := by first | exact Or.inl rfl | exact Or.inr (Or.inl rfl) | exact Or.inr (Or.inr rfl)) (hd : (x == ("__debug__" : Str)) = false := by decide) (hcd : (x == ("__classdict__" : Str)) = false := by decide) : PE X (.Name x p) (tH X.mg P (.var i)) :=
  PE.imp (pe_var hN hv hd hcd) slot_tvar
theorem eV (i : Nat) (hN : X.N[i]? = some x := by rfl) (hv : Vis X.env.scope x := by first | exact Or.inl rfl | exact Or.inr (Or.inl rfl) | exact Or.inr (Or.inr rfl)) (hd : (x == ("__debug__" : Str)) = false := by decide) (hcd : (x == ("__classdict__" : Str)) = false := by decide) : PE X (.Name x p) (tE X.mg P (.var i)) :=
  PE.imp (pe_var hN hv hd hcd) take_tvar
def Ex.isV : Ex → Bool
  | .var _ => true
  | _ => false
theorem hE (h : PE X e (tE X.mg P xe)) (hx : xe.isV = false := by rfl) : PE X e (tH X.mg P xe) := pe_hn (fun i z => by rw [z] at hx; cases hx) h
theorem eI {i : Int} {k : Nat} : PE X (.Constant (.int i) k p) (tE X.mg P (.cst (.int i))) := PE.imp pe_int (cst_tC fun _ => rfl)
theorem eB {i : Bool} {k : Nat} : PE X (.Constant (.bool i) k p) (tE X.mg P (.cst (.bl i))) := PE.imp pe_bl (cst_tC fun _ => rfl)
theorem eS {i : Str} {k : Nat} : PE X (.Constant (.str i) k p) (tE X.mg P (.cst (.str i))) := PE.imp pe_str (cst_tC fun _ => rfl)
theorem eN {k : Nat} : PE X (.Constant .none k p) (tE X.mg P (.cst .non)) := PE.imp pe_non (cst_tC fun _ => rfl)
theorem eFn (G : GA X P M n) (f : Nat) {fd : FnDef} (hT : M.T f = some fd := by rfl) (hx : M.nm.fn f = x := by rfl) (hg : L2.Gl X x := by rfl) (hd : (x == ("__debug__" : Str)) = false := by decide) : PE X (.Name x p) (tE X.mg P (.gl (.fn f))) := by
  obtain ⟨ad, fo, hm, _⟩ := G.gx.fns f fd hT
  rw [G.hnm, hx] at hm
  exact PE.imp (pe_glob hg hm (v := .ref ad) rfl hd) (gl_tC fun F => ⟨ad, rfl, by rw [G.hnm, hx]; exact hm⟩)
theorem eTy (G : GA X P M n) {t : String} (hb : x ∈ bltN := by decide) (hv : bootBuiltins x = some (.type t) := by rfl) (hg : L2.Gl X x := by rfl) (hn : x ≠ "__name__" := by decide) (hd : (x == ("__debug__" : Str)) = false := by decide) : PE X (.Name x p) (tE X.mg P (.gl (.ty t))) :=
  PE.imp (pe_bltn hg (G.blt x hb) hv (v := .ty t) rfl hn hd) (gl_tC fun F => rfl)
theorem eInt (G : GA X P M n) (k : Nat) {i : Int} (hk : M.it k = some i := by rfl) (hx : M.nm.int k = x := by rfl) (hg : L2.Gl X x := by rfl) (hd : (x == ("__debug__" : Str)) = false := by decide) : PE X (.Name x p) (tE X.mg P (.gl (.int k i))) := by
  obtain ⟨t, hm⟩ := G.nums k i hk
  rw [hx] at hm
  exact PE.imp (pe_glob hg hm (v := .int i) ⟨t, rfl⟩ hd) (gl_tC fun F => rfl)
theorem eCls (G : GA X P M n) (k : Nat) (hk : Nat.blt k M.nc = true := by rfl) (hx : M.nm.cls k = x := by rfl) (hg : L2.Gl X x := by rfl) (hd : (x == ("__debug__" : Str)) = false := by decide) : PE X (.Name x p) (tE X.mg P (.gl (.cls k))) := by
  obtain ⟨C, hm⟩ := G.clsx k (Nat.ble_eq.mp hk)
  rw [hx] at hm
  exact PE.imp (pe_glob hg hm (v := .ref C) rfl hd) (gl_tC fun F => ⟨C, rfl, by rw [G.hnm, hx]; exact hm⟩)
/-! ### lists of operands -/
theorem aN : PA X [] (tHs X.mg P []) := PA.imp pa_nil tHs_nil
theorem aC (he : PE X e (tH X.mg P xe)) (hr : PA X es (tHs X.mg P xs)) (hs : starEach (e :: es) X.env = (false, eval e X.env) :: starEach es X.env := by rfl) : PA X (e :: es) (tHs X.mg P (xe :: xs)) := PA.imp (pa_cons he hr hs) tHs_cons
theorem bN : PA X [] (tEs X.mg P []) := PA.imp pa_nil tEs_nil
theorem bC (he : PE X e (tE X.mg P xe)) (hr : PA X es (tEs X.mg P xs)) (hs : starEach (e :: es) X.env = (false, eval e X.env) :: starEach es X.env := by rfl) : PA X (e :: es) (tEs X.mg P (xe :: xs)) := PA.imp (pa_cons he hr hs) tEs_cons
theorem eTup {k : Nat} (h : PA X es (tEs X.mg P xs)) (hz : xs.length ≤ 16777216 := by decide) : PE X (.Tuple es k pos) (tE X.mg P (.tup xs)) := PE.imp (pe_tup h) (mk_tup hz)
theorem eLst (h : PA X es (tEs X.mg P xs)) (hz : xs.length ≤ 16777216 := by decide) : PE X (.List es pos) (tE X.mg P (.lst xs)) := PE.imp (pe_lst h) (mk_lst hz)
/-! ### operators -/
theorem GA.hu (G : GA X P M n) : X.A.units + 65 < cLine := by have := G.gx.room.un; omega
theorem eBin (G : GA X P M n) (q : Prim) {op : Operator} (ha : PE X a (tH X.mg P xa)) (hb : PE X b (tH X.mg P xb)) (h : binOf q = some op := by rfl) : PE X (.BinOp a op b pos) (tE X.mg P (.pr q [xa, xb])) := by
  obtain ⟨r, h1, h2⟩ := bin_rule (X := X) (P := P) h
  exact PE.imp (pe_op h1 ha hb) (bin_gen h2)
theorem eCmp (G : GA X P M n) (q : Prim) {op : CmpOp} (ha : PE X a (tH X.mg P xa)) (hb : PE X b (tH X.mg P xb)) (h : cmpOf q = some op := by rfl) (hm : behindInMarks op b = false := by rfl) : PE X (.Compare a [op] [b] pos) (tE X.mg P (.pr q [xa, xb])) := by
  obtain ⟨r, h1, h2⟩ := cmp_rule (X := X) (P := P) G.hu h
  exact PE.imp (pe_cmpR h1 ha hb hm) (bin_gen h2)
theorem b_neg : ∀ F H x d o Q, Sub F H → View X.mg P.nm F H d x → prim .neg [d] = some o → Out X.mg P.nm F H o Q → (rU fun i => .int (-i)) x H Q := by
  intro F H x d o Q s v h k
  replace h : p_neg [d] = some o := h
  unfold p_neg at h
  split at h
  · rename_i i q
    cases q
    cases h
    exact ⟨i, v.int, k.here s rfl⟩
  · cases h
theorem eNeg (ha : PE X a (tH X.mg P xa)) : PE X (.UnaryOp .USub a pos) (tE X.mg P (.pr .neg [xa])) := PE.imp (pe_un un_neg ha) (un_gen b_neg)
theorem IxR.or {r r' : R2} (h : IxR X r) (h' : IxR X r') : IxR X (fun x y H Q => r x y H Q ∨ r' x y H Q) := fun val sl pins s σ H x y v u Q I rx ry q hs => q.elim (fun q => h val sl pins s σ H x y v u Q I rx ry q hs) (fun q => h' val sl pins s σ H x y v u Q I rx ry q hs)
theorem eIx (G : GA X P M n) (ha : PE X a (tH X.mg P xa)) (hb : PE X b (tH X.mg P xb)) (hs : PlainIx b := by intro _ _; rfl) : PE X (.Subscript a b pos) (tE X.mg P (.pr .idx [xa, xb])) := PE.imp (pe_ix (IxR.or ix_list ix_tup) ha hb hs) (bin_gen (by rw [← G.gx.kk]; exact b_idx))
theorem eNot (ha : PE X a (tE X.mg P xa)) : PE X (.UnaryOp .Not a pos) (tE X.mg P (.not xa)) := PE.imp (pe_not ha) not_tNotV
theorem eAnd1 (ha : PE X a (tE X.mg P xa)) : PE X (.BoolOp .And [a] pos) (tE X.mg P (.and [xa])) := PE.imp (pe_one ha) and1
theorem eAnd (ha : PE X a (tE X.mg P xa)) (hb : PE X (.BoolOp .And (b :: es) pos) (tE X.mg P (.and (xb :: xs)))) : PE X (.BoolOp .And (a :: b :: es) pos) (tE X.mg P (.and (xa :: xb :: xs))) := PE.imp (pe_and ha hb) and2
theorem eOr1 (ha : PE X a (tE X.mg P xa)) : PE X (.BoolOp .Or [a] pos) (tE X.mg P (.or [xa])) := PE.imp (pe_one ha) or1
theorem eOr (ha : PE X a (tE X.mg P xa)) (hb : PE X (.BoolOp .Or (b :: es) pos) (tE X.mg P (.or (xb :: xs)))) : PE X (.BoolOp .Or (a :: b :: es) pos) (tE X.mg P (.or (xa :: xb :: xs))) := PE.imp (pe_or ha hb) or2
theorem eIf (hc : PT X c (tT X.mg P xc)) (ha : PE X a (tE X.mg P xa)) (hb : PE X b (tE X.mg P xb)) : PE X (.IfExp c a b pos) (tE X.mg P (.ite xc xa xb)) := PE.imp (pe_ifExp hc ha hb) ite_tIf
/-! ### tests -/
def Ex.tv : Ex → Bool
  | .not _ => false
  | .and _ => false
  | .or _ => false
  | .ite _ _ _ => false
  | .bor _ _ => false
  | _ => true
theorem tvl (ha : PE X a (tE X.mg P xa)) (hk : xa.tv = true := by rfl) (he : ∀ whole, isTrue a X.env whole = (do let v ← whole; standAt a.pos; holding [v] (truthy v)) := by intro _; rfl) : PT X a (tT X.mg P xa) :=
  PT.imp (pt_val ha he) (tt_val fun ε => by cases xa <;> first | exact Bool.noConfusion hk | (rw [evT] <;> first | rfl | (intros; rename_i z; cases z)))
theorem tNt (ha : PT X a (tT X.mg P xa)) : PT X (.UnaryOp .Not a pos) (tT X.mg P (.not xa)) := PT.imp (pt_not ha) tt_not
theorem PW.imp {t t' : TT} (h : PW X e t) (i : ∀ σ H Q, t' σ H Q → t σ H Q) : PW X e t' := ⟨fun wh pins s σ H Q I q => h.run wh pins s σ H Q I (i σ H Q q)⟩
theorem ts_one {xa : Ex} : ∀ σ H Q, tTs X.mg P [xa] σ H Q → tT X.mg P xa σ H Q := fun σ H Q ⟨F, Z, ε, R, h⟩ => ⟨F, Z, ε, R, by rw [evTs_one] at h; exact h⟩
theorem evTo_one {cl : Nat → List O → COut} {sg : Nat → List Nat} {c : Ex} {ε : Env} : evTo cl sg [c] ε = evT cl sg c ε := by
  unfold evTo
  cases evT cl sg c ε with
  | ok b ε1 => cases b <;> (unfold Res.bind; first | rfl | (dsimp only; done) | (dsimp only; unfold evTo; rfl))
  | exc _ _ _ => rfl
  | bad => rfl
theorem to_one {xa : Ex} : ∀ σ H Q, tTo X.mg P [xa] σ H Q → tT X.mg P xa σ H Q := fun σ H Q ⟨F, Z, ε, R, h⟩ => ⟨F, Z, ε, R, by rw [evTo_one] at h; exact h⟩
theorem wA1 (ha : PT X a (tT X.mg P xa)) : PW X (.BoolOp .And [a] pos) (tTs X.mg P [xa]) := PW.imp (pw_and1 ha) ts_one
theorem wA (ha : PT X a (tT X.mg P xa)) (hb : PW X (.BoolOp .And (b :: es) pos) (tTs X.mg P (xb :: xs))) : PW X (.BoolOp .And (a :: b :: es) pos) (tTs X.mg P (xa :: xb :: xs)) := PW.imp (pw_and ha hb) ts_cons
theorem tAn (h : PW X (.BoolOp .And es pos) (tTs X.mg P xs)) : PT X (.BoolOp .And es pos) (tT X.mg P (.and xs)) := PT.imp h.pt tt_and
theorem wO1 (ha : PT X a (tT X.mg P xa)) : PW X (.BoolOp .Or [a] pos) (tTo X.mg P [xa]) := PW.imp (pw_or1 ha) to_one
theorem wO (ha : PT X a (tT X.mg P xa)) (hb : PW X (.BoolOp .Or (b :: es) pos) (tTo X.mg P (xb :: xs))) : PW X (.BoolOp .Or (a :: b :: es) pos) (tTo X.mg P (xa :: xb :: xs)) := PW.imp (pw_or ha hb) to_cons
theorem tOn (h : PW X (.BoolOp .Or es pos) (tTo X.mg P xs)) : PT X (.BoolOp .Or es pos) (tT X.mg P (.or xs)) := PT.imp h.pt tt_or
theorem eBo (m : List Nat) (ha : PE X a (tE X.mg P xa)) : PE X a (tE X.mg P (.bor m xa)) := PE.imp ha bor_tE
theorem tBo (m : List Nat) (ha : PT X a (tT X.mg P xa)) : PT X a (tT X.mg P (.bor m xa)) := PT.imp ha bor_tT
/-! ### slices -/
theorem Views.to1 {mg : Str → Option Value} {nm : Nm} {F H : Hp} {ds : List D} {x : V} (h : Views mg nm F H ds [x]) : ∃ d, ds = [d] ∧ View mg nm F H d x := by
  cases ds with
  | nil => cases h
  | cons d ds =>
    obtain ⟨v, r, e, h1, h2⟩ := h
    cases e
    cases ds with
    | nil => exact ⟨d, rfl, h1⟩
    | cons _ _ => obtain ⟨_, _, e, _⟩ := h2; cases e
theorem Views.to2 {mg : Str → Option Value} {nm : Nm} {F H : Hp} {ds : List D} {x y : V} (h : Views mg nm F H ds [x, y]) : ∃ d e, ds = [d, e] ∧ View mg nm F H d x ∧ View mg nm F H e y := by
  cases ds with
  | nil => cases h
  | cons d ds =>
    obtain ⟨v, r, e, h1, h2⟩ := h
    cases e
    obtain ⟨d2, rfl, h3⟩ := Views.to1 h2
    exact ⟨d, d2, rfl, h1, h3⟩
theorem sl00_of : ∀ σ H Q, tE X.mg P (.pr (.slc false false) [xa]) σ H Q → tSl (rSlL P.nm.K) (tH X.mg P xa) tNoPart tNoPart σ H Q := by
  rintro σ H Q ⟨F, Z, ε, R, h⟩
  refine read1 (G := fun x H2 => rSlL P.nm.K x none none H2 Q) R (pr_setup R h) fun hs ε' F' H' Z' x S' r' q => ?_
  obtain ⟨F2, ds, o, s, v, e, k⟩ := q
  obtain ⟨d, rfl, v1⟩ := v.to1
  exact slc00 e F2 H' x Q s v1 k
theorem sl10_of : ∀ σ H Q, tE X.mg P (.pr (.slc true false) [xa, xb]) σ H Q → tSl (rSlL P.nm.K) (tH X.mg P xa) (tPart (tH X.mg P xb)) tNoPart σ H Q := by
  rintro σ H Q ⟨F, Z, ε, R, h⟩
  refine read2 (G := fun x y H2 => ∃ i, y = .int i ∧ rSlL P.nm.K x (some i) none H2 Q) R (pr_setup R h) fun hs ε' F' H' Z' x y S' r' q => ?_
  obtain ⟨F2, ds, o, s, v, e, k⟩ := q
  obtain ⟨d, d2, rfl, v1, v2⟩ := v.to2
  obtain ⟨i, rfl, sl⟩ := slc10 e
  exact ⟨i, v2.int, sl F2 H' x Q s v1 k⟩
theorem sl01_of : ∀ σ H Q, tE X.mg P (.pr (.slc false true) [xa, xb]) σ H Q → tSl (rSlL P.nm.K) (tH X.mg P xa) tNoPart (tPart (tH X.mg P xb)) σ H Q := by
  rintro σ H Q ⟨F, Z, ε, R, h⟩
  refine read2 (G := fun x y H2 => ∃ i, y = .int i ∧ rSlL P.nm.K x none (some i) H2 Q) R (pr_setup R h) fun hs ε' F' H' Z' x y S' r' q => ?_
  obtain ⟨F2, ds, o, s, v, e, k⟩ := q
  obtain ⟨d, d2, rfl, v1, v2⟩ := v.to2
  obtain ⟨i, rfl, sl⟩ := slc01 e
  exact ⟨i, v2.int, sl F2 H' x Q s v1 k⟩
theorem eSl00 (G : GA X P M n) {p2 : Pos} (ha : PE X a (tH X.mg P xa)) : PE X (.Subscript a (.Slice none none none p2) pos) (tE X.mg P (.pr (.slc false false) [xa])) := PE.imp (pe_slice sl_list ha po_none po_none) (by rw [← G.gx.kk]; exact sl00_of)
theorem eSl10 (G : GA X P M n) {p2 : Pos} (ha : PE X a (tH X.mg P xa)) (hb : PE X b (tH X.mg P xb)) : PE X (.Subscript a (.Slice (some b) none none p2) pos) (tE X.mg P (.pr (.slc true false) [xa, xb])) := PE.imp (pe_slice sl_list ha (po_some hb) po_none) (by rw [← G.gx.kk]; exact sl10_of)
theorem eSl01 (G : GA X P M n) {p2 : Pos} (ha : PE X a (tH X.mg P xa)) (hb : PE X b (tH X.mg P xb)) : PE X (.Subscript a (.Slice none (some b) none p2) pos) (tE X.mg P (.pr (.slc false true) [xa, xb])) := PE.imp (pe_slice sl_list ha po_none (po_some hb)) (by rw [← G.gx.kk]; exact sl01_of)
/-! ### built-in functions -/
theorem fB (G : GA X P M n) {id : String} {q : Prim} {r : List V → Hp → VK → Prop} (hc : CallR X (.builtin id) r) (hf : Fun X P q r) (ha : PA X (e :: es) (tHs X.mg P xs)) (hb : x ∈ bltN) (hv : bootBuiltins x = some (.builtin id)) (hg : L2.Gl X x) (hn : x ≠ "__name__") (hd : (x == ("__debug__" : Str)) = false)
    (he : starEach (e :: es) X.env = (false, eval e X.env) :: starEach es X.env) (hpl : (backTo pos (starEach es X.env)).any (·.1) = false) : PE X (.Call (.Name x p) (e :: es) [] pos) (tE X.mg P (.pr q xs)) :=
  PE.imp (pe_callB hc hg (G.blt x hb) hv ha hn hd he hpl) (call_gen hf)
theorem fT (G : GA X P M n) {id : String} {q : Prim} {r : List V → Hp → VK → Prop} (hc : CallR X (.type id) r) (hf : Fun X P q r) (ha : PA X (e :: es) (tHs X.mg P xs)) (hb : x ∈ bltN) (hv : bootBuiltins x = some (.type id)) (hg : L2.Gl X x) (hn : x ≠ "__name__") (hd : (x == ("__debug__" : Str)) = false)
    (he : starEach (e :: es) X.env = (false, eval e X.env) :: starEach es X.env) (hpl : (backTo pos (starEach es X.env)).any (·.1) = false) : PE X (.Call (.Name x p) (e :: es) [] pos) (tE X.mg P (.pr q xs)) :=
  PE.imp (pe_callTy hc hg (G.blt x hb) hv ha hn hd he hpl) (call_gen hf)
end
end Ev
end
section
set_option linter.all false
set_option maxRecDepth 100000
set_option maxHeartbeats 4000000
/-! The words that a printed proof uses: calls, blocks, statements. -/
namespace Ev
open PySem PySem.Spec PyProof.Rows L2
section
variable {X : Cx} {P : Pm} {M : Md} {n : Nat} {x y z : Str} {p p1 p2 p3 pos pos2 : Pos} {a b c e tg iter : Expr} {es ifs : List Expr} {xa xb xc xe xi : Ex} {xs xf : List Ex} {i j k L : Nat} {st : Stmt} {sts sa sb : List Stmt} {s1 : St} {ss ya yb : List St} {t : Tg} {ts : List Tg}
theorem GA.apart (G : GA X P M n) : Apart X.K X.mg P.nm := G.gx.cls
theorem eLen (G : GA X P M n) (ha : PA X (e :: es) (tHs X.mg P xs)) (hg : L2.Gl X "len" := by rfl) (he : starEach (e :: es) X.env = (false, eval e X.env) :: starEach es X.env := by rfl) (hp : (backTo pos (starEach es X.env)).any (·.1) = false := by rfl) : PE X (.Call (.Name "len" p) (e :: es) [] pos) (tE X.mg P (.pr .len xs)) := fB G (r := fun xs H Q => ∃ x n, xs = [x] ∧ LenV P.nm.K x H n ∧ Q (.int n) H) (by rw [G.gx.kk]; exact call_len) f_len ha (by decide) (by rfl) hg (by decide) (by decide) he hp
theorem eIsi (G : GA X P M n) (ha : PA X (e :: es) (tHs X.mg P xs)) (hg : L2.Gl X "isinstance" := by rfl) (he : starEach (e :: es) X.env = (false, eval e X.env) :: starEach es X.env := by rfl) (hp : (backTo pos (starEach es X.env)).any (·.1) = false := by rfl) : PE X (.Call (.Name "isinstance" p) (e :: es) [] pos) (tE X.mg P (.pr .isi xs)) := fB G (CallR.or call_isi (CallR.or call_isiT call_isX)) (f_isi G.apart) ha (by decide) (by rfl) hg (by decide) (by decide) he hp
theorem eInt1 (G : GA X P M n) (ha : PA X (e :: es) (tHs X.mg P xs)) (hg : L2.Gl X "int" := by rfl) (he : starEach (e :: es) X.env = (false, eval e X.env) :: starEach es X.env := by rfl) (hp : (backTo pos (starEach es X.env)).any (·.1) = false := by rfl) : PE X (.Call (.Name "int" p) (e :: es) [] pos) (tE X.mg P (.pr .int1 xs)) := fT G call_int1 f_int1 ha (by decide) (by rfl) hg (by decide) (by decide) he hp
theorem eList1 (G : GA X P M n) (ha : PA X (e :: es) (tHs X.mg P xs)) (hg : L2.Gl X "list" := by rfl) (he : starEach (e :: es) X.env = (false, eval e X.env) :: starEach es X.env := by rfl) (hp : (backTo pos (starEach es X.env)).any (·.1) = false := by rfl) : PE X (.Call (.Name "list" p) (e :: es) [] pos) (tE X.mg P (.pr .list1 xs)) := fT G call_list_of f_list1 ha (by decide) (by rfl) hg (by decide) (by decide) he hp
theorem eTuple1 (G : GA X P M n) (ha : PA X (e :: es) (tHs X.mg P xs)) (hg : L2.Gl X "tuple" := by rfl) (he : starEach (e :: es) X.env = (false, eval e X.env) :: starEach es X.env := by rfl) (hp : (backTo pos (starEach es X.env)).any (·.1) = false := by rfl) : PE X (.Call (.Name "tuple" p) (e :: es) [] pos) (tE X.mg P (.pr .tuple1 xs)) := fT G call_tuple_of f_tuple1 ha (by decide) (by rfl) hg (by decide) (by decide) he hp
theorem eSorted (G : GA X P M n) (ha : PA X (e :: es) (tHs X.mg P xs)) (hg : L2.Gl X "sorted" := by rfl) (he : starEach (e :: es) X.env = (false, eval e X.env) :: starEach es X.env := by rfl) (hp : (backTo pos (starEach es X.env)).any (·.1) = false := by rfl) : PE X (.Call (.Name "sorted" p) (e :: es) [] pos) (tE X.mg P (.pr .sorted1 xs)) := fB G (cr_srt (by have := G.hu; omega)) f_sorted ha (by decide) (by rfl) hg (by decide) (by decide) he hp
theorem eMax1 (G : GA X P M n) (ha : PA X (e :: es) (tHs X.mg P xs)) (hg : L2.Gl X "max" := by rfl) (he : starEach (e :: es) X.env = (false, eval e X.env) :: starEach es X.env := by rfl) (hp : (backTo pos (starEach es X.env)).any (·.1) = false := by rfl) : PE X (.Call (.Name "max" p) (e :: es) [] pos) (tE X.mg P (.pr .max1 xs)) := fB G (cr_max G.gx.calm) f_max1 ha (by decide) (by rfl) hg (by decide) (by decide) he hp
theorem eMin1 (G : GA X P M n) (ha : PA X (e :: es) (tHs X.mg P xs)) (hg : L2.Gl X "min" := by rfl) (he : starEach (e :: es) X.env = (false, eval e X.env) :: starEach es X.env := by rfl) (hp : (backTo pos (starEach es X.env)).any (·.1) = false := by rfl) : PE X (.Call (.Name "min" p) (e :: es) [] pos) (tE X.mg P (.pr .min1 xs)) := fB G (cr_min G.gx.calm) f_min1 ha (by decide) (by rfl) hg (by decide) (by decide) he hp
theorem eMax2 (G : GA X P M n) (ha : PA X (e :: es) (tHs X.mg P xs)) (hg : L2.Gl X "max" := by rfl) (he : starEach (e :: es) X.env = (false, eval e X.env) :: starEach es X.env := by rfl) (hp : (backTo pos (starEach es X.env)).any (·.1) = false := by rfl) : PE X (.Call (.Name "max" p) (e :: es) [] pos) (tE X.mg P (.pr .max2 xs)) := fB G (call_max2 G.gx.calm) f_max2 ha (by decide) (by rfl) hg (by decide) (by decide) he hp
theorem eMin2 (G : GA X P M n) (ha : PA X (e :: es) (tHs X.mg P xs)) (hg : L2.Gl X "min" := by rfl) (he : starEach (e :: es) X.env = (false, eval e X.env) :: starEach es X.env := by rfl) (hp : (backTo pos (starEach es X.env)).any (·.1) = false := by rfl) : PE X (.Call (.Name "min" p) (e :: es) [] pos) (tE X.mg P (.pr .min2 xs)) := fB G (call_min2 G.gx.calm) f_min2 ha (by decide) (by rfl) hg (by decide) (by decide) he hp
theorem eSum1 (G : GA X P M n) (ha : PA X (e :: es) (tHs X.mg P xs)) (hg : L2.Gl X "sum" := by rfl) (he : starEach (e :: es) X.env = (false, eval e X.env) :: starEach es X.env := by rfl) (hp : (backTo pos (starEach es X.env)).any (·.1) = false := by rfl) : PE X (.Call (.Name "sum" p) (e :: es) [] pos) (tE X.mg P (.pr .sum1 xs)) := fB G (CallR.or (cr_sum G.gx.calm) (cr_sumT G.gx.calm)) f_sum1 ha (by decide) (by rfl) hg (by decide) (by decide) he hp
theorem eAbs (G : GA X P M n) (ha : PA X (e :: es) (tHs X.mg P xs)) (hg : L2.Gl X "abs" := by rfl) (he : starEach (e :: es) X.env = (false, eval e X.env) :: starEach es X.env := by rfl) (hp : (backTo pos (starEach es X.env)).any (·.1) = false := by rfl) : PE X (.Call (.Name "abs" p) (e :: es) [] pos) (tE X.mg P (.pr .abs1 xs)) := fB G call_abs f_abs1 ha (by decide) (by rfl) hg (by decide) (by decide) he hp
theorem eRepr (G : GA X P M n) (ha : PA X (e :: es) (tHs X.mg P xs)) (hg : L2.Gl X "repr" := by rfl) (he : starEach (e :: es) X.env = (false, eval e X.env) :: starEach es X.env := by rfl) (hp : (backTo pos (starEach es X.env)).any (·.1) = false := by rfl) : PE X (.Call (.Name "repr" p) (e :: es) [] pos) (tE X.mg P (.pr .repr1 xs)) := fB G (cr_rpr G.gx.gd (by have := G.hu; omega)) f_repr ha (by decide) (by rfl) hg (by decide) (by decide) he hp
theorem reps_rg {mg : Str → Option Value} {nm : Nm} {F : Hp} (j : Int) : Reps mg nm F (rngD 0 j.toNat) (rgV 0 j) := by
  have h : ∀ l : List Nat, Reps mg nm F (l.map fun (i : Nat) => D.int (0 + (i : Int))) (l.map fun (i : Nat) => V.int (0 + (i : Int))) := by
    intro l
    induction l with
    | nil => rfl
    | cons a l ih => exact ⟨_, _, rfl, rfl, ih⟩
  unfold rngD rgV
  rw [show j - 0 = j by omega]
  exact h _
theorem lrng_of {mg : Str → Option Value} : ∀ σ H Q, tE mg P (.pr .lrng [xa]) σ H Q → tLstRg (tRg1 (tH mg P xa)) σ H Q := by
  rintro σ H Q ⟨F, Z, ε, R, h⟩
  have h0 : After (evHs P.cl P.sg [xa] ε) (kHs mg P σ F H Z (fun hs ε' F' H' Z' vs S => ∃ G ds o, Sub G H' ∧ Views mg P.nm G H' ds vs ∧ prim .lrng ds = some o ∧ Out mg P.nm G H' o Q)) (xW mg P σ F H Z) := by
    unfold evE at h
    refine (After.bind h).imp (fun hs ε1 k F1 H1 Z1 vs S s1 r1 o1 t1 => ?_) fun _ _ _ z => z
    cases q : rds ε1 hs with
    | none => rw [q] at k; exact k.elim
    | some pr =>
      obtain ⟨ds, ε2⟩ := pr
      rw [q] at k
      dsimp only at k
      cases q2 : prim .lrng ds with
      | none => rw [q2] at k; exact k.elim
      | some o =>
        rw [q2] at k
        obtain ⟨F2, Z2, s2, u2, R2, v2⟩ := rds_ok s1 r1 o1 t1 q
        exact ⟨F2, ds, o, R2.sub, v2, q2, out_of s2 R2 k⟩
  refine read1 (G := fun x H2 => ∃ m, x = .int m ∧ RgOk 0 m ∧ ∀ q, H2 q = none → Q (.ref q) (upd H2 q (.lst (rgV 0 m)))) R h0 fun hs ε' F' H' Z' x S' r' q => ?_
  obtain ⟨F2, ds, o, s, v, e, k⟩ := q
  obtain ⟨d, rfl, v1⟩ := v.to1
  replace e : p_lrng [d] = some o := e
  unfold p_lrng at e
  split at e
  · rename_i j q
    cases q
    split at e
    · rename_i c
      cases e
      exact ⟨j, v1.int, RgOk.of_le (by omega) (by omega) (by omega) (by omega), fun q hq => k.list s (reps_rg j) hq⟩
    · cases e
  · cases e
theorem eLRng (G : GA X P M n) (ha : PE X a (tH X.mg P xa)) (hg : L2.Gl X "list" := by rfl) (hg2 : L2.Gl X "range" := by rfl) (na : starEach [a] X.env = (false, eval a X.env) :: starEach [] X.env := by rfl) : PE X (.Call (.Name "list" p) [.Call (.Name "range" p1) [a] [] p2] [] pos) (tE X.mg P (.pr .lrng [xa])) :=
  PE.imp (pe_listRg G.gx.calm hg (G.blt _ (by decide)) (prg_1 hg2 (G.blt _ (by decide)) ha na) rfl) lrng_of
/-! ### calls -/
theorem eCal (G : GA X P M n) (f : Nat) {fd : FnDef} (ha : PA X (e :: es) (tHs X.mg P xs)) (hT : M.T f = some fd := by rfl) (hx : M.nm.fn f = x := by rfl) (hg : L2.Gl X x := by rfl) (hd : (x == ("__debug__" : Str)) = false := by decide)
    (he : starEach (e :: es) X.env = (false, eval e X.env) :: starEach es X.env := by rfl) (hp : (backTo pos (starEach es X.env)).any (·.1) = false := by rfl) : PE X (.Call (.Name x p) (e :: es) [] pos) (tE X.mg P (.call f xs)) := by
  have hx' : P.nm.fn f = x := by rw [G.hnm]; exact hx
  subst hx'
  exact PE.imp (pe_cal G.gx hT hg hd ha he hp) (cal_of G.gx.cl G.gx.sg G.gx.one)
theorem eCal0 (G : GA X P M n) (f : Nat) {fd : FnDef} (hT : M.T f = some fd := by rfl) (hx : M.nm.fn f = x := by rfl) (hg : L2.Gl X x := by rfl) (hd : (x == ("__debug__" : Str)) = false := by decide) : PE X (.Call (.Name x p) [] [] pos) (tE X.mg P (.call f [])) := by
  have hx' : P.nm.fn f = x := by rw [G.hnm]; exact hx
  subst hx'
  exact PE.imp (pe_cal0 G.gx hT hg hd) fun σ H Q h => cal_of G.gx.cl G.gx.sg G.gx.one σ H Q h |> fun q => tHs_nil σ H _ q
theorem kN : PK X [] (tHs X.mg P []) := ⟨fun q pins s σ H Q I h => pk_nil.run q pins s σ H Q I (tHs_nil σ H Q h)⟩
theorem kC {kws : List Keyword} {nm : Option Str} (ha : PE X e (tH X.mg P xe)) (hr : PK X kws (tHs X.mg P xs)) : PK X (⟨nm, e, p⟩ :: kws) (tHs X.mg P (xe :: xs)) := ⟨fun q pins s σ H Q I h => (pk_cons ha hr).run q pins s σ H Q I (tHs_cons σ H Q h)⟩
theorem eCalk (G : GA X P M n) (f : Nat) (q : List Str × List Nat) {fd : FnDef} {kws : List Keyword} (ha : PK X kws (tHs X.mg P xs)) (hT : M.T f = some fd := by rfl) (hx : M.nm.fn f = x := by rfl) (hq : (M.kt f).contains q = true := by kernel_rfl) (hk : kws.map (·.arg) = q.1.map some := by rfl) (hl : xs.length = q.1.length := by rfl) (hn : q.2.Nodup := by decide) (hg : L2.Gl X x := by rfl) (hd : (x == ("__debug__" : Str)) = false := by decide) :
    PE X (.Call (.Name x p) [] kws pos) (tE X.mg P (.callk f xs q.2)) := by
  have hx' : P.nm.fn f = x := by rw [G.hnm]; exact hx
  subst hx'
  exact PE.imp (pe_calk G.gx hT (List.contains_iff_mem.mp hq) hk hg hd ha (by rw [← hl]; exact tHs_len)) (calk_of G.gx.cl G.gx.sg G.gx.one hn)
theorem eCalv (G : GA X P M n) (i : Nat) (ha : PA X (e :: es) (tHs X.mg P xs)) (hN : X.N[i]? = some x := by rfl) (hv : Vis X.env.scope x := by first | exact Or.inl rfl | exact Or.inr (Or.inl rfl) | exact Or.inr (Or.inr rfl)) (hd : (x == ("__debug__" : Str)) = false := by decide) (hcd : (x == ("__classdict__" : Str)) = false := by decide)
    (he : starEach (e :: es) X.env = (false, eval e X.env) :: starEach es X.env := by rfl) (hp : (backTo pos (starEach es X.env)).any (·.1) = false := by rfl) : PE X (.Call (.Name x p) (e :: es) [] pos) (tE X.mg P (.callv i xs)) :=
  PE.imp (pe_calv G.gx hN hv hd hcd ha he hp) (calv_of G.gx.cl G.gx.sg G.gx.one)
/-! ### methods -/
theorem eApp (i : Nat) (ho : PE X a (tVar i)) (he : PE X e (tE X.mg P xe)) (hs : starEach [e] X.env = (false, eval e X.env) :: starEach [] X.env := by rfl) (hbase : attributeBase a "append" X.env (eval a X.env) = eval a X.env := by rfl)
    (hfew : ((backTo pos (starEach [e] X.env)).all (fun x => !x.1) && (backToKw pos (keywordEach [] X.env)).all (fun x => x.1.isSome) && decide ([e].length + ([] : List Keyword).length + (if ([] : List Keyword).isEmpty then 0 else 1) < 30)) = true := by rfl) (hline : (p1.endLine == pos.line) = true := by rfl) :
    PE X (.Call (.Attribute a "append" p1) [e] [] pos) (tE X.mg P (.app i xe)) :=
  PE.imp (pe_bm PySem.F.plainAttrs_list PySem.F.slot_list_append PySem.F.type_list_append mt_append ho (pa_cons he pa_nil hs) hbase hfew hline hs rfl) app_of
theorem vS (i : Nat) (hN : X.N[i]? = some x := by rfl) (hv : Vis X.env.scope x := by first | exact Or.inl rfl | exact Or.inr (Or.inl rfl) | exact Or.inr (Or.inr rfl)) (hd : (x == ("__debug__" : Str)) = false := by decide) (hcd : (x == ("__classdict__" : Str)) = false := by decide) : PE X (.Name x p) (tVar i) := pe_var hN hv hd hcd
theorem ePop0 (i : Nat) (ho : PE X a (tVar i)) (hbase : attributeBase a "pop" X.env (eval a X.env) = eval a X.env := by rfl) (hline : (p1.endLine == pos.line) = true := by rfl) : PE X (.Call (.Attribute a "pop" p1) [] [] pos) (tE X.mg P (.pop i [])) :=
  PE.imp (pe_bm0 PySem.F.plainAttrs_list PySem.F.slot_list_pop PySem.F.type_list_pop mt_pop ho hbase hline) pop0_of
theorem ePop1 (i : Nat) (ho : PE X a (tVar i)) (he : PA X [e] (tHs X.mg P [xe])) (hs : starEach [e] X.env = (false, eval e X.env) :: starEach [] X.env := by rfl) (hbase : attributeBase a "pop" X.env (eval a X.env) = eval a X.env := by rfl)
    (hfew : ((backTo pos (starEach [e] X.env)).all (fun x => !x.1) && (backToKw pos (keywordEach [] X.env)).all (fun x => x.1.isSome) && decide ([e].length + ([] : List Keyword).length + (if ([] : List Keyword).isEmpty then 0 else 1) < 30)) = true := by rfl) (hline : (p1.endLine == pos.line) = true := by rfl) :
    PE X (.Call (.Attribute a "pop" p1) [e] [] pos) (tE X.mg P (.pop i [xe])) :=
  PE.imp (pe_bm PySem.F.plainAttrs_list PySem.F.slot_list_pop PySem.F.type_list_pop mt_popAt ho he hbase hfew hline hs rfl) pop1_of
theorem vC {i : Int} {k : Nat} : PE X (.Constant (.int i) k p) (tV (.cst (.int i))) := pe_int
theorem vV (i : Nat) (hN : X.N[i]? = some x := by rfl) (hv : Vis X.env.scope x := by first | exact Or.inl rfl | exact Or.inr (Or.inl rfl) | exact Or.inr (Or.inr rfl)) (hd : (x == ("__debug__" : Str)) = false := by decide) (hcd : (x == ("__classdict__" : Str)) = false := by decide) : PE X (.Name x p) (tV (.var i)) := pe_var hN hv hd hcd
theorem th1 (ho : PE X a (tVar i)) (hb : PE X b (tV xb)) (hs : PlainIx b := by intro _ _; rfl) : PE X (.Subscript a b pos) (tPth X.K i [xb]) := pe_ix ix_seq ho hb hs
theorem th2 (ho : PE X a (tPth X.K i [xa])) (hb : PE X b (tV xb)) (hs : PlainIx b := by intro _ _; rfl) : PE X (.Subscript a b pos) (tPth X.K i [xa, xb]) := pe_ix ix_seq ho hb hs
theorem eAppAt (i : Nat) (ho : PE X a (tPth X.K i xs)) (he : PE X e (tV xe)) (hl : xs.length ≤ 2 := by decide) (hs : starEach [e] X.env = (false, eval e X.env) :: starEach [] X.env := by rfl) (hbase : attributeBase a "append" X.env (eval a X.env) = eval a X.env := by rfl)
    (hfew : ((backTo pos (starEach [e] X.env)).all (fun x => !x.1) && (backToKw pos (keywordEach [] X.env)).all (fun x => x.1.isSome) && decide ([e].length + ([] : List Keyword).length + (if ([] : List Keyword).isEmpty then 0 else 1) < 30)) = true := by rfl) (hline : (p1.endLine == pos.line) = true := by rfl) :
    PE X (.Call (.Attribute a "append" p1) [e] [] pos) (tE X.mg P (.appAt i xs xe)) :=
  PE.imp (pe_bm PySem.F.plainAttrs_list PySem.F.slot_list_append PySem.F.type_list_append mt_append ho (pa_cons he pa_nil hs) hbase hfew hline hs rfl) (appAt_of hl)
theorem eVal (G : GA X P M n) (he : PE X e (tE X.mg P xe)) (hb : attributeBase e "value" X.env (eval e X.env) = eval e X.env := by rfl) : PE X (.Attribute e "value" pos) (tE X.mg P (.attr xe)) := by
  obtain ⟨cv, _, ge⟩ := G.base
  exact PE.imp (pe_val ge he hb) attr_tVal
/-! ### what is walked -/
theorem iS (h : PE X e (tH X.mg P xe)) (h1 : (match xe with | .rng _ => false | .enm _ => false | _ => true) = true := by rfl) : PI X tg e (tIt X.mg P xe) :=
  PI.imp (PI.or (pi_list h) (pi_tup h)) (it_seq (fun es z => by subst z; cases h1) (fun x z => by subst z; cases h1))
theorem iR1 (G : GA X P M n) (h : PA X [a] (tHs X.mg P [xa])) (hg : L2.Gl X "range" := by rfl) (hs : starEach [a] X.env = [(false, eval a X.env)] := by rfl) : PI X tg (.Call (.Name "range" p) [a] [] pos) (tIt X.mg P (.rng [xa])) := PI.imp (pi_range1 hg (G.blt _ (by decide)) h hs) it_rng1
theorem iR2 (G : GA X P M n) (h : PA X [a, b] (tHs X.mg P [xa, xb])) (hg : L2.Gl X "range" := by rfl) (hs : starEach [a, b] X.env = [(false, eval a X.env), (false, eval b X.env)] := by rfl) (hs2 : starEach [b] X.env = [(false, eval b X.env)] := by rfl) : PI X tg (.Call (.Name "range" p) [a, b] [] pos) (tIt X.mg P (.rng [xa, xb])) := PI.imp (pi_range2 hg (G.blt _ (by decide)) h hs hs2) it_rng2
/-! ### targets -/
theorem PG.cast {t t' : TG} (h : PG X e t) (he : t = t') : PG X e t' := by rw [← he]; exact h
theorem PGs.cast {t t' : TGs} (h : PGs X es t) (he : t = t') : PGs X es t' := by rw [← he]; exact h
theorem gN (G : GA X P M n) (i : Nat) (hi : X.N[i]? = some x := by rfl) (hx : Loc X.env.scope x := by first | exact Or.inl rfl | exact Or.inr rfl) (hf : X.fn x = true ∨ X.env.scope.names.lookup x = some .local := by first | exact Or.inl rfl | exact Or.inr rfl) : PG X (.Name x p) (tgG X.K (.name i)) := PG.cast (pg_name G.gx.nd hi hx hf) (by unfold tgG; rfl)
theorem gsN : PGs X [] (tgGs X.K []) := PGs.cast pgs_nil (by unfold tgGs; rfl)
theorem gsC (h : PG X e (tgG X.K t)) (hr : PGs X es (tgGs X.K ts)) (he : (assignEach (e :: es) X.env).map (·.2) = assign e X.env :: (assignEach es X.env).map (·.2) := by rfl) : PGs X (e :: es) (tgGs X.K (t :: ts)) := PGs.cast (pgs_cons h hr he) (by rw [tgGs])
theorem gT (G : GA X P M n) {k : Nat} (h : PGs X es (tgGs X.K ts)) (hn : (assignEach es X.env).length = ts.length := by rfl) (hst : (assignEach es X.env).findIdx? (·.1) = none := by rfl) : PG X (.Tuple es k p) (tgG X.K (.tup ts)) := PG.cast (pg_tup G.gx.calm h hn hst) (by rw [tgG])
end
end Ev
end
section
set_option linter.all false
set_option maxRecDepth 100000
set_option maxHeartbeats 4000000
/-! The words that a printed proof uses: blocks, statements, defs. -/
namespace Ev
open PySem PySem.Spec PyProof.Rows L2
section
variable {X : Cx} {P : Pm} {M : Md} {n : Nat} {x y z : Str} {p p1 p2 p3 pos pos2 : Pos} {a b c e tg iter : Expr} {es ifs : List Expr} {xa xb xc xe xi : Ex} {xs xf : List Ex} {i j k : Nat} {st : Stmt} {sts sa sb : List Stmt} {s1 : St} {ss ya yb : List St} {t : Tg} {ts : List Tg}
theorem ks_take0 {X : Cx} : Takes X (fun _ _ _ _ => False) := fun _ _ x => by
  obtain ⟨_, _, _, _, _, _, _, _, _, _, _, _, _, _, _, _, z⟩ := x
  exact z.elim
/-- the block of a comprehension -/
theorem GA.blk (G : GA X P M n) (s : Shared) (H : Hp) (sc : Scope) (ce : PySem.Env) (fp : List Addr) : GA (X.blk s H sc ce fp) P.no M n :=
  ⟨⟨G.gx.cl, G.gx.sg, G.gx.one, G.gx.nd, G.gx.calm, G.gx.room, G.gx.gd, ks_take0, G.gx.fns, G.gx.tot, G.gx.cls, G.gx.kk⟩, G.hnm, G.blt, G.nums, G.clsx, by
    obtain ⟨cv, h1, h2⟩ := G.base
    exact ⟨cv, h1, ⟨h2.exs, h2.all, h2.apart⟩⟩⟩
theorem GA.try_ (G : GA X P M n) (W : WX) (pn : List (Addr × Obj)) (xe : Value → Shared → Prop) (tk : Takes (X.tr pn xe) W) : GA (X.tr pn xe) { P with W := W } M n :=
  ⟨⟨G.gx.cl, G.gx.sg, G.gx.one, G.gx.nd, G.gx.calm, G.gx.room, G.gx.gd, tk, G.gx.fns, G.gx.tot, G.gx.cls, G.gx.kk⟩, G.hnm, G.blt, G.nums, G.clsx, by
    obtain ⟨cv, h1, h2⟩ := G.base
    exact ⟨cv, h1, ⟨h2.exs, h2.all, h2.apart⟩⟩⟩
theorem qN : PTs X [] (tTests X.mg P []) := pts_nil
theorem q1 (h : PT X c (tT X.mg P xc)) : PTs X [c] (tTests X.mg P [xc]) := pts_one h
theorem eLc (G : GA X P M n) {scope : Scope} (own : List (Str × Nat)) (hi : PI X tg iter (tIt X.mg P xi))
    (hg : ∀ (s : Shared) (H : Hp) (C : Addr) (cl : List (Str × Addr)) (fp : List Addr), GA (X.blk s H scope (compEnvC scope cl C X.env) fp) P.no M n → PG (X.blk s H scope (compEnvC scope cl C X.env) fp) tg (tgG X.K t))
    (ht : ∀ (s : Shared) (H : Hp) (C : Addr) (cl : List (Str × Addr)) (fp : List Addr), GA (X.blk s H scope (compEnvC scope cl C X.env) fp) P.no M n → PTs (X.blk s H scope (compEnvC scope cl C X.env) fp) ifs (tTests X.mg P.no xf))
    (he : ∀ (s : Shared) (H : Hp) (C : Addr) (cl : List (Str × Addr)) (fp : List Addr), GA (X.blk s H scope (compEnvC scope cl C X.env) fp) P.no M n → PE (X.blk s H scope (compEnvC scope cl C X.env) fp) e (tE X.mg P.no xe))
    (ok : BlkOk X.N X.env.scope scope own := by exact blkOk_by (by kernel_rfl)) (hin : t.inn (own.map (·.2)) = true := by rfl) (hl : t.lim X.N.length = true := by rfl) (hif : xf.length ≤ 1 := by decide) (hs : ∀ x, foldedSetIterable iter X.env x = pure x := by intro _; rfl) :
    PE X (.ListComp e [⟨tg, iter, ifs, 0⟩] scope pos) (tE X.mg P (.lc xe t xi xf (own.map (·.2)))) :=
  PE.ln (pe_lc G.gx.calm G.gx.nd hi ok (fun s H C cl fp => hg s H C cl fp (G.blk ..)) (fun s H C cl fp => ht s H C cl fp (G.blk ..)) (fun s H C cl fp => he s H C cl fp (G.blk ..)) hs) fun σ H Q l h => lc_of hin hl hif σ H Q l h
/-! ### statements -/
theorem sAsg (G : GA X P M n) (he : PE X e (tE X.mg P xe)) (hg : PG X tg (tgG X.K t)) (hl : t.lim X.N.length = true := by rfl) (hs : swapsWithSole [tg] e pos.line X.env = pure false := by rfl) (hw : swappedStores [tg] e X.env = pure none := by rfl) (h1 : (assignEach [tg] X.env).map (·.2) = [assign tg X.env] := by rfl) :
    PS X (.Assign [tg] e pos) (tSt X.mg P (.asg t xe)) := PS.ln (ps_asg he hg hs hw h1) fun D σ H l h => s_asg hl D σ H l h
theorem sLc (G : GA X P M n) {scope : Scope} {py : Pos} (i : Nat) (own : List (Str × Nat)) (hi : PI X tg iter (tIt X.mg P xi))
    (hg : ∀ (s : Shared) (H : Hp) (C : Addr) (cl : List (Str × Addr)) (fp : List Addr), GA (X.blk s H scope (compEnvC scope cl C X.env) fp) P.no M n → PG (X.blk s H scope (compEnvC scope cl C X.env) fp) tg (tgG X.K t))
    (ht : ∀ (s : Shared) (H : Hp) (C : Addr) (cl : List (Str × Addr)) (fp : List Addr), GA (X.blk s H scope (compEnvC scope cl C X.env) fp) P.no M n → PTs (X.blk s H scope (compEnvC scope cl C X.env) fp) ifs (tTests X.mg P.no xf))
    (he : ∀ (s : Shared) (H : Hp) (C : Addr) (cl : List (Str × Addr)) (fp : List Addr), GA (X.blk s H scope (compEnvC scope cl C X.env) fp) P.no M n → PE (X.blk s H scope (compEnvC scope cl C X.env) fp) e (tE X.mg P.no xe))
    (hy : X.N[i]? = some y := by rfl) (hyl : X.env.scope.names.lookup y = some .local := by rfl) (hk : X.env.scope.kind = .function := by rfl) (hln : (py.line == pos.line) = true := by rfl) (hsc : (scope.names.any fun (n, k) => n == y && (k == .local || k == .cell)) = false := by decide +kernel) (hli : Nat.blt i X.N.length = true := by rfl)
    (ok : BlkOk X.N X.env.scope scope own := by exact blkOk_by (by kernel_rfl)) (hin : t.inn (own.map (·.2)) = true := by rfl) (hl : t.lim X.N.length = true := by rfl) (hif : xf.length ≤ 1 := by decide) (hs : ∀ x, foldedSetIterable iter X.env x = pure x := by intro _; rfl) :
    PS X (.Assign [.Name y py] (.ListComp e [⟨tg, iter, ifs, 0⟩] scope pos) pos2) (tSt X.mg P (.asg (.name i) (.lc xe t xi xf (own.map (·.2))))) :=
  PS.ln (ps_setLc G.gx.calm G.gx.nd hy hyl (sw_true hk hyl hln hsc) hi ok (fun s H C cl fp => hg s H C cl fp (G.blk ..)) (fun s H C cl fp => ht s H C cl fp (G.blk ..)) (fun s H C cl fp => he s H C cl fp (G.blk ..)) hs) fun D σ H l h => by
    have h1 := s_asg (K := X.K) (t := .name i) (L := X.N.length) (by unfold Tg.lim; exact decide_eq_true (Nat.ble_eq.mp hli)) D σ H l h
    have h2 : tE X.mg P (.lc xe t xi xf (own.map (·.2))) σ H fun x H1 => gName i x σ H1 D.nx := by
      have e : tgG X.K (.name i) = gName i := by unfold tgG; rfl
      rw [e] at h1
      exact h1
    exact lc_of hin hl hif σ H _ l h2
theorem sPar2 (G : GA X P M n) (i j : Nat) {kt kv : Nat} {pt pv : Pos} (ha : PA X [a, b] (tEs X.mg P [xa, xb])) (hi : X.N[i]? = some x := by rfl) (hj : X.N[j]? = some y := by rfl) (hij : i ≠ j := by decide) (hx : X.env.scope.names.lookup x = some .local := by rfl) (hy : X.env.scope.names.lookup y = some .local := by rfl)
    (hw : swappedStores [.Tuple [.Name x p1, .Name y p2] kt pt] (.Tuple [a, b] kv pv) X.env = pure (some [x, y]) := by rfl) (hs : swapsWithSole [.Tuple [.Name x p1, .Name y p2] kt pt] (.Tuple [a, b] kv pv) pos.line X.env = pure false := by rfl) (l1 : Nat.blt i X.N.length = true := by rfl) (l2 : Nat.blt j X.N.length = true := by rfl) :
    PS X (.Assign [.Tuple [.Name x p1, .Name y p2] kt pt] (.Tuple [a, b] kv pv) pos) (tSt X.mg P (.par [i, j] [xa, xb])) := PS.ln (ps_par G.gx.calm G.gx.nd hi hj hij hx hy ha hw hs) fun D σ H l h => s_par2 (Nat.ble_eq.mp l1) (Nat.ble_eq.mp l2) D σ H l h
theorem sPar3 (G : GA X P M n) (i j k : Nat) {kt kv : Nat} {pt pv : Pos} (ha : PA X [a, b, c] (tEs X.mg P [xa, xb, xc])) (hi : X.N[i]? = some x := by rfl) (hj : X.N[j]? = some y := by rfl) (hk : X.N[k]? = some z := by rfl) (hij : i ≠ j := by decide) (hik : i ≠ k := by decide) (hjk : j ≠ k := by decide) (hx : X.env.scope.names.lookup x = some .local := by rfl) (hy : X.env.scope.names.lookup y = some .local := by rfl) (hz : X.env.scope.names.lookup z = some .local := by rfl)
    (hw : swappedStores [.Tuple [.Name x p1, .Name y p2, .Name z p3] kt pt] (.Tuple [a, b, c] kv pv) X.env = pure (some [x, y, z]) := by rfl) (hs : swapsWithSole [.Tuple [.Name x p1, .Name y p2, .Name z p3] kt pt] (.Tuple [a, b, c] kv pv) pos.line X.env = pure false := by rfl) (l1 : Nat.blt i X.N.length = true := by rfl) (l2 : Nat.blt j X.N.length = true := by rfl) (l3 : Nat.blt k X.N.length = true := by rfl) :
    PS X (.Assign [.Tuple [.Name x p1, .Name y p2, .Name z p3] kt pt] (.Tuple [a, b, c] kv pv) pos) (tSt X.mg P (.par [i, j, k] [xa, xb, xc])) := PS.ln (ps_par3 G.gx.calm G.gx.nd hi hj hk hij hik hjk hx hy hz ha hw hs) fun D σ H l h => s_par3 (Nat.ble_eq.mp l1) (Nat.ble_eq.mp l2) (Nat.ble_eq.mp l3) D σ H l h
theorem sParT (G : GA X P M n) (is : List Nat) {kt kv : Nat} {pt pv : Pos} (ha : PA X es (tEs X.mg P xs)) (hg : PG X (.Tuple ifs kt pt) (tgG X.K (.tup (is.map Tg.name)))) (hl : Tg.lims (is.map Tg.name) X.N.length = true := by rfl) (hz : xs.length ≤ 16777216 := by decide)
    (hs : swapsWithSole [.Tuple ifs kt pt] (.Tuple es kv pv) pos.line X.env = pure false := by rfl) (hw : swappedStores [.Tuple ifs kt pt] (.Tuple es kv pv) X.env = pure none := by rfl) (h1 : (assignEach [.Tuple ifs kt pt] X.env).map (·.2) = [assign (.Tuple ifs kt pt) X.env] := by rfl) :
    PS X (.Assign [.Tuple ifs kt pt] (.Tuple es kv pv) pos) (tSt X.mg P (.par is xs)) := PS.ln (ps_asg (pe_tup ha) hg hs hw h1) fun D σ H l h => s_parT hl hz D σ H l h
theorem sSet (G : GA X P M n) (i : Nat) (ho : PE X a (tVar i)) (hk : PE X b (tH X.mg P xb)) (he : PE X e (tE X.mg P xe))
    (hb : ∀ v, assign (.Subscript a b p1) X.env v = (do
      let ov ← holding [v] (eval a X.env)
      let iv ← holding [v, ov] (eval b X.env)
      standAt p1
      holding [v, ov, iv] (setItem ov iv v)
      release [v, ov, iv] []) := by intro _; rfl)
    (hs : swapsWithSole [.Subscript a b p1] e pos.line X.env = pure false := by rfl) (hw : swappedStores [.Subscript a b p1] e X.env = pure none := by rfl) (h1 : (assignEach [.Subscript a b p1] X.env).map (·.2) = [assign (.Subscript a b p1) X.env] := by rfl) :
    PS X (.Assign [.Subscript a b p1] e pos) (tSt X.mg P (.setix i xb xe)) := PS.ln (ps_asg he (pg_sub ho hk set_list hb) hs hw h1) fun D σ H l h => s_setix D σ H h
theorem sExp (he : PE X e (tE X.mg P xe)) (hs : swapsWith e none pos.line X.env = pure false := by rfl) : PS X (.Expr e pos) (tSt X.mg P (.exp xe)) := PS.ln (ps_expr he hs) fun D σ H l h => s_exp D σ H h
theorem sRet (he : PE X e (tE X.mg P xe)) (hx : xe.isV = false := by rfl) : PS X (.Return (some e) pos) (tSt X.mg P (.ret xe)) := PS.ln (ps_ret he) fun D σ H l h => s_ret (fun i z => by rw [z] at hx; cases hx) D σ H h
theorem sRetV (i : Nat) (he : PE X e (tVar i)) : PS X (.Return (some e) pos) (tSt X.mg P (.ret (.var i))) := PS.ln (ps_ret he) fun D σ H l h => s_retV D σ H h
theorem sRetN : PS X (.Return none pos) (tSt X.mg P .retN) := PS.ln ps_retN fun D σ H l h => s_retN D σ H h
theorem sPass : PS X (.Pass pos) (tSt X.mg P .pass) := PS.ln ps_pass fun D σ H l h => s_pass D σ H h
theorem sIf (hc : PT X c (tT X.mg P xc)) (ha : PSs X sa (tSs X.mg P ya)) (hb : PSs X sb (tSs X.mg P yb)) : PS X (.If c sa sb pos) (tSt X.mg P (.ite xc ya yb)) := PS.ln (ps_if hc ha hb) fun D σ H l h => s_ite D σ H h
theorem sFor (G : GA X P M n) (hi : PI X tg iter (tIt X.mg P xi)) (hg : PG X tg (tgG X.K t)) (hb : PSs X sb (tSs X.mg P yb)) (hl : t.lim X.N.length = true := by rfl) (hp : PassesOwn (model X.prog X.w) X.A X.env X.xe := by exact passes_of rfl) (hfs : ∀ x, foldedSetIterable iter X.env x = pure x := by intro _; rfl) : PS X (.For tg iter sb [] pos) (tSt X.mg P (.for_ t xi yb)) := PS.ln (ps_for hp G.gx.calm hi hg hb hfs) fun D σ H l h => s_for hl D σ H l h
theorem sWhl (hc : PT X c (tT X.mg P xc)) (hb : PSs X sb (tSs X.mg P yb)) (hp : PassesOwn (model X.prog X.w) X.A X.env X.xe := by exact passes_of rfl) : PS X (.While c sb [] pos) (tSt X.mg P (.whl xc yb)) := PS.ln (ps_while hp hc hb) fun D σ H l h => s_whl D σ H h
theorem sRse (G : GA X P M n) (k : Nat) (he : PE X e (tE X.mg P xe)) (hk : Nat.blt k M.nc = true := by rfl) (hx : M.nm.cls k = x := by rfl) (hg : L2.Gl X x := by rfl) (hd : (x == ("__debug__" : Str)) = false := by decide) (hs : starEach [e] X.env = (false, eval e X.env) :: starEach [] X.env := by rfl) :
    PS X (.Raise (some (.Call (.Name x p1) [e] [] p2)) none pos) (tSt X.mg P (.rse k xe)) := by
  have hx' : P.nm.cls k = x := by rw [G.hnm]; exact hx
  subst hx'
  obtain ⟨C, hC⟩ := G.clsx k (Nat.ble_eq.mp hk)
  rw [← G.hnm] at hC
  obtain ⟨cv, _, ge⟩ := G.base
  obtain ⟨fI, T⟩ := ge.exs k C hC
  exact PS.ln (ps_raise G.gx.calm G.gx.tk (pmk_E T G.gx.room (pa_cons he pa_nil hs) hg hd hs)) fun D σ H l h => s_rse hC D σ H h
theorem sTry (G : GA X P M n) (c m i : Nat) {np pe : Pos} (he : ∀ (W : WX) (pn : List (Addr × Obj)) (xe' : Value → Shared → Prop), GA (X.tr pn xe') { P with W := W } M n → PE (X.tr pn xe') e (tE X.mg { P with W := W } xe))
    (hi : X.N[i]? = some y := by rfl) (hm : X.N[m]? = some z := by rfl) (hln : X.env.kindOf y = some .local := by rfl) (hlm : X.env.kindOf z = some .local := by rfl) (him : i ≠ m := by decide) (hx : M.bs = x := by rfl) (hg : L2.Gl X x := by rfl) (hd : (x == ("__debug__" : Str)) = false := by decide) (hd2 : (y == ("__debug__" : Str)) = false := by decide) (hcd : (y == ("__classdict__" : Str)) = false := by decide)
    (l1 : Nat.blt i X.N.length = true := by rfl) (l2 : Nat.blt m X.N.length = true := by rfl) (hst : X.stack = X.env :: X.outer := by rfl) (hex : X.ex = [] := by rfl) (hfr : X.env.frame = some X.env.locals := by rfl) (hsw : swapsWith e none pe.line X.env = pure false := by rfl) {q1 q2 q3 pos' : Pos} :
    PS X (.Try [.Expr e pe] [.ExceptHandler (some (.Name x np)) (some y) [.Assign [.Name z q1] (.Name y q2) q3] pos'] [] [] pos) (tSt X.mg P (.tryM xe c m i)) := by
  obtain ⟨cv, hcv, ge⟩ := G.base
  rw [hx] at hcv
  refine PS.ln (ps_tryM (c := cv) hst hex hfr G.gx.nd hi hm hln hlm him ⟨hg, hd, .inl hcv⟩ hd2 hcd (tb := fun W => tSeq (tDrop (tE X.mg { P with W := W } xe)) tNext) fun W pn xe' tk => pss_cons (ps_expr (he W pn xe' (G.try_ W pn xe' tk)) hsw) pss_nil) fun D σ H l h => ?_
  exact s_tryM (Nat.ble_eq.mp l1) (Nat.ble_eq.mp l2) ge.all D σ H l h
theorem ssN : PSs X [] (tSs X.mg P []) := PSs.ln pss_nil fun D σ H l h => ss_nil D σ H h
theorem ssC (h : PS X st (tSt X.mg P s1)) (hr : PSs X sts (tSs X.mg P ss)) : PSs X (st :: sts) (tSs X.mg P (s1 :: ss)) := PSs.ln (pss_cons h hr) fun D σ H l h => ss_cons D σ H h
end
end Ev
end
section
set_option linter.all false
set_option maxRecDepth 100000
set_option maxHeartbeats 4000000
/-! Chains of comparisons, bit_length. -/
namespace Ev
open PySem PySem.Spec PyProof.Rows L2
section
variable {X : Cx} {P : Pm} {M : Md} {n : Nat} {mg : Str → Option Value}
theorem hnIm_nil {F H : Hp} {σ : L2.St} {h : Hn} {v : V} {S : List Addr} (o : HnR mg P F H σ h v S) (c : hnIm h = true) : S = [] := by
  cases h with
  | slot i => exact o.2
  | val o' => cases o' <;> first | exact o.2 | cases c
theorem chain_of {p q : Prim} {r r' : R2} {a b c : Ex} (B1 : Bin X P p r) (B2 : Bin X P q r') : ∀ σ H Q, tE X.mg P (.chain p q a b c) σ H Q → tChain r r' (tH X.mg P a) (tH X.mg P b) (tH X.mg P c) σ H Q := by
  rintro σ H Q ⟨F, Z, ε, R, h⟩
  unfold evE at h
  refine ⟨F, Z, ε, R, (After.bind h).imp (fun ha ε1 k F1 H1 Z1 x S1 s1 R1 o1 t1 => ?_) fun _ _ _ z => z⟩
  refine ⟨F1, Z1, ε1, R1, (After.bind k).imp (fun hb ε2 k2 F2 H2 Z2 y S2 s2 R2 o2 t2 => ?_) fun _ _ _ z => xW.step s1 z⟩
  by_cases c1 : hnIm hb = true
  case neg => rw [if_pos (by simpa using c1)] at k2; exact k2.elim
  rw [if_neg (by simp [c1])] at k2
  have e2 := hnIm_nil o2 c1
  subst e2
  have t12 := t1.step s2 o1.dom
  have o1' := o1.mono s2.sub t12.2
  cases q1 : rds ε2 [ha, hb] with
  | none => rw [q1] at k2; exact k2.elim
  | some pr =>
    obtain ⟨ds, ε3⟩ := pr
    rw [q1] at k2
    dsimp only at k2
    obtain ⟨F3, Z3, s3, u3, R3, v3⟩ := rds_ok (s1.trans s2) R2 (hs := [ha, hb]) (vs := [x, y]) (S := S1 ++ ([] ++ [])) ⟨x, [y], S1, [] ++ [], rfl, o1', ⟨y, [], [], [], rfl, o2, ⟨rfl, rfl⟩, rfl⟩, rfl⟩ (by simpa using t12.1) q1
    obtain ⟨d, e, rfl, v1, v2⟩ := v3.to2
    have fin : ∀ bb : Bool, prim p [d, e] = some (.im (.bl bb)) → After (if bb = true then (evH P.cl P.sg c ε3).bind fun hc ε4 => (match rds ε4 [hb, hc] with
        | some (ds, ε5) => match prim q ds with
          | some o => .ok o ε5
          | none => .bad
        | none => .bad) else (.ok (.im (.bl false)) ε3 : Res O)) (kO X.mg P σ F H Z Q) (xW X.mg P σ F H Z) → r x y H2 fun z H3 => ∃ k, z = .bl k ∧ (if k = true then tH X.mg P c σ H3 fun w H4 => r' y w H4 Q else Q (.bl false) H3) := by
      intro bb hp k3
      refine B1 F3 H2 x y d e _ _ R3.sub v1 v2 hp fun F' H' v S g ow nd new => ?_
      obtain ⟨rfl, rfl⟩ := own_bl ow
      refine ⟨bb, rfl, ?_⟩
      have s4 := s3.grow g
      have R4 := R3.grow g
      cases bb with
      | false =>
        rw [if_neg (by simp)] at k3 ⊢
        exact k3 F' H' Z3 (.bl false) [] s4 R4 ⟨rfl, rfl⟩ Tmp.nil
      | true =>
        rw [if_pos rfl] at k3 ⊢
        refine ⟨F', Z3, ε3, R4, (After.bind k3).imp (fun hc ε4 k4 F5 H5 Z5 w S5 s5 R5 o5 t5 => ?_) fun _ _ _ z => xW.step s4 z⟩
        cases q2 : rds ε4 [hb, hc] with
        | none => rw [q2] at k4; exact k4.elim
        | some pr =>
          obtain ⟨ds2, ε5⟩ := pr
          rw [q2] at k4
          dsimp only at k4
          have ob : HnR X.mg P F5 H5 σ hb y [] := o2.mono ((u3.trans g.sub).trans s5.sub) fun a h => by cases h
          obtain ⟨F6, Z6, s6, u6, R6, v6⟩ := rds_ok (s4.trans s5) R5 (hs := [hb, hc]) (vs := [y, w]) (S := [] ++ (S5 ++ [])) ⟨y, [w], [], S5 ++ [], rfl, ob, ⟨w, [], S5, [], rfl, o5, ⟨rfl, rfl⟩, rfl⟩, rfl⟩ (by simpa using t5.pre s4) q2
          obtain ⟨d2, e2, rfl, w1, w2⟩ := v6.to2
          cases q3 : prim q [d2, e2] with
          | none => rw [q3] at k4; exact k4.elim
          | some o =>
            rw [q3] at k4
            exact B2 F6 H5 y w d2 e2 o Q R6.sub w1 w2 q3 (out_of s6 R6 k4)
    split at k2
    · rename_i hp
      exact fin true hp (by rw [if_pos rfl]; exact k2)
    · rename_i hp
      exact fin false hp (by rw [if_neg (by simp)]; exact k2)
    · exact k2.elim
variable {a b c : Expr} {xa xb xc : Ex} {p1 pos : Pos}
theorem eChn (G : GA X P M n) (q1 q2 : Prim) {o1 o2 : CmpOp} (ha : PE X a (tH X.mg P xa)) (hb : PE X b (tH X.mg P xb)) (hc : PE X c (tH X.mg P xc)) (h1 : cmpOf q1 = some o1 := by rfl) (h2 : cmpOf q2 = some o2 := by rfl) (hm : lastMarks [o1, o2] [b, c] = false := by with_unfolding_all rfl) : PE X (.Compare a [o1, o2] [b, c] pos) (tE X.mg P (.chain q1 q2 xa xb xc)) := by
  obtain ⟨r1, a1, b1⟩ := cmp_rule (X := X) (P := P) G.hu h1
  obtain ⟨r2, a2, b2⟩ := cmp_rule (X := X) (P := P) G.hu h2
  exact PE.imp (pe_chain a1 a2 ha hb hc hm) (chain_of b1 b2)
theorem b_bits : ∀ F H x d o Q, Sub F H → View X.mg P.nm F H d x → prim .bitlen [d] = some o → Out X.mg P.nm F H o Q → (∃ i, x = .int i ∧ Q (.int (Builtin.Int.intBits i : Nat)) H) := by
  intro F H x d o Q s v h k
  replace h : p_bitlen [d] = some o := h
  unfold p_bitlen at h
  split at h
  · rename_i i q
    cases q
    cases h
    refine ⟨i, v.int, k.here s ?_⟩
    show V.int ((Builtin.Int.intBits i : Nat) : Int) = V.int _
    unfold Builtin.Int.intBits
    by_cases z : i = 0
    · simp [z]
    · simp [z]
  · cases h
theorem eBits (G : GA X P M n) (ha : PE X a (tH X.mg P xa)) (hbase : attributeBase a "bit_length" X.env (eval a X.env) = eval a X.env := by rfl) (hline : (p1.endLine == pos.line) = true := by rfl) : PE X (.Call (.Attribute a "bit_length" p1) [] [] pos) (tE X.mg P (.pr .bitlen [xa])) := PE.imp (pe_bits ha hbase hline) (un_gen b_bits)
theorem tCmp (G : GA X P M n) (q : Prim) {op : CmpOp} (ha : PE X a (tH X.mg P xa)) (hb : PE X b (tH X.mg P xb)) (h : cmpOf q = some op := by rfl) (hm : behindInMarks op b = false := by rfl) : PT X (.Compare a [op] [b] pos) (tT X.mg P (.pr q [xa, xb])) := by
  obtain ⟨r, h1, h2⟩ := cmp_rule (X := X) (P := P) G.hu h
  exact PT.imp (pt_cmpR h1 ha hb hm) fun σ H Q w => bin_gen h2 σ H _ (tt_val (fun ε => by rw [evT] <;> first | rfl | (intros; rename_i z; cases z)) σ H Q w)
theorem tChn (G : GA X P M n) (q1 q2 : Prim) {o1 o2 : CmpOp} (ha : PE X a (tH X.mg P xa)) (hb : PE X b (tH X.mg P xb)) (hc : PE X c (tH X.mg P xc)) (h1 : cmpOf q1 = some o1 := by rfl) (h2 : cmpOf q2 = some o2 := by rfl) (hm : lastMarks [o1, o2] [b, c] = false := by with_unfolding_all rfl) : PT X (.Compare a [o1, o2] [b, c] pos) (tT X.mg P (.chain q1 q2 xa xb xc)) := by
  obtain ⟨r1, a1, b1⟩ := cmp_rule (X := X) (P := P) G.hu h1
  obtain ⟨r2, a2, b2⟩ := cmp_rule (X := X) (P := P) G.hu h2
  exact PT.imp (pt_chain a1 a2 ha hb hc hm) fun σ H Q w => chain_of b1 b2 σ H _ (tt_val (fun ε => by rw [evT] <;> first | rfl | (intros; rename_i z; cases z)) σ H Q w)
end
end Ev
end
section
set_option linter.all false
set_option maxRecDepth 100000
set_option maxHeartbeats 4000000
/-! sum(lists, []). -/
namespace Ev
open PySem PySem.Spec PyProof.Rows L2
abbrev lstO (vs : List Value) (n : Nat) : Obj := { cls := .type "list", data := .seq vs.toArray n }
theorem lst_is {h : Heap} {a : Addr} {vs : List Value} {n : Nat} (e : h.get? a = some (lstO vs n)) : h.IsList a vs.toArray := ⟨_, e, rfl, n, rfl⟩
theorem args_sum2 (a b : Value) : argsOk "sum" ⟨[a, b], []⟩ := by unfold argsOk; kernel_rfl
section
variable {prog : Program} {w : World} {A : Around} {E : Value → Shared → Prop}
theorem sum_lists {R : Result → Shared → Prop} {I S l : Addr} {La : List Addr} {ct : Addr → List Value} (hh : A.handled = none) (nIS : I ≠ S) (nlI : l ≠ I) (nlS : l ≠ S) (nL : ∀ b ∈ La, b ≠ I ∧ b ≠ S) :
    ∀ (k i : Nat) (s : Shared) (T : Addr) (tot : List Value) (c nt nl : Nat), La.length - i = k → i ≤ La.length → s.heap.IsListIter I l i → s.heap.get? l = some (lstO (La.map Value.ref) nl) → s.heap.get? S = some { cls := .type "list", dict := none, data := .seq #[.ref T] c, slots := #[] } →
    s.heap.get? T = some (lstO tot nt) → T ≠ I → T ≠ S → (∀ b ∈ La, ∃ n, s.heap.get? b = some (lstO (ct b) n)) → (tot ++ (La.drop i).flatMap ct).length ≤ sizeLine → La.length ≤ sizeLine →
    (∀ (h' : Heap) (tk : Nat) (T' : Addr) (n' : Nat), (∀ b o, b ≠ I → b ≠ S → s.heap.get? b = some o → h'.get? b = some o) → h'.get? T' = some (lstO (tot ++ (La.drop i).flatMap ct) n') → (k = 0 → T' = T) → (k ≠ 0 → s.heap.get? T' = none) → R (.ok (.ret (.ref T'))) { s with heap := h', toks := tk }) →
    codeAny (model prog w) A (.builtin "sum.loop" ⟨[.ref I, .ref S, rawInt 2, rawInt 0], []⟩) R s := by
  intro k
  induction k with
  | zero =>
    intro i s T tot c nt nl hk hi hit hl hS hT nTI nTS hL hz hzl fin
    have e : i = La.length := by omega
    subst e
    refine codeAny_builtin F.entry_sum_loop ?_
    rw [Around.under_plainId F.plain_sum_loop _]
    show wpAny _ A.in1 (seqItems? (.ref S) >>= _) _ _ s
    refine wpAny_bind (wpAny_seqItems hS rfl ?_)
    show wpAny _ A.in1 (tryCatch (pyNext (.ref I)) _ >>= _) _ _ s
    refine wpAny_bind (wpAny_tryCatch (wpAny_pyNext_list_end hh hit (lst_is hl) (by simp) fun h' ex => ?_))
    refine wpAny_pure (fin h' s.toks T nt (fun b o n1 _ eb => ex b o n1 eb) ?_ (fun _ => rfl) (fun z => absurd rfl z))
    rw [List.drop_length]
    simp only [List.flatMap_nil, List.append_nil]
    exact ex T _ nTI hT
  | succ k ih =>
    intro i s T tot c nt nl hk hi hit hl hS hT nTI nTS hL hz hzl fin
    have lt : i < La.length := by omega
    refine codeAny_builtin F.entry_sum_loop ?_
    rw [Around.under_plainId F.plain_sum_loop _]
    show wpAny _ A.in1 (seqItems? (.ref S) >>= _) _ _ s
    refine wpAny_bind (wpAny_seqItems hS rfl ?_)
    show wpAny _ A.in1 (tryCatch (pyNext (.ref I)) _ >>= _) _ _ s
    refine wpAny_bind (wpAny_tryCatch (wpAny_pyNext_list_item hit (lst_is hl) (x := .ref La[i]) (by simp [lt]) fun h1 hit1 sb => ?_))
    have k1 : ∀ b o, b ≠ I → s.heap.get? b = some o → h1.get? b = some o := fun b o n1 e => sb.extBut b o n1 e
    have mem : La[i] ∈ La := List.getElem_mem lt
    obtain ⟨nb, eb⟩ := hL _ mem
    have eb1 := k1 _ _ (nL _ mem).1 eb
    have hT1 := k1 _ _ nTI hT
    have hS1 := k1 _ _ (Ne.symm nIS) hS
    have dr : La.drop i = La[i] :: La.drop (i + 1) := List.drop_eq_getElem_cons lt
    rw [dr, List.flatMap_cons, ← List.append_assoc] at hz
    have hz1 : tot.length + (ct La[i]).length ≤ sizeLine := by
      rw [List.length_append, List.length_append] at hz
      omega
    show wpAny _ A.in1 ((holding [Value.ref La[i]] (binaryOp .Add (.ref T) (.ref La[i]))).attempt >>= _) _ _ _
    refine wpAny_bind (wpAny_attempt (wpAny_holding (PySem.P.add_list hT1 eb1 ?_ (by rw [List.size_toArray, List.size_toArray]; exact hz1))))
    have up : ∀ b o, h1.get? b = some o → (h1.push { cls := .type "list", data := .seq (tot.toArray ++ (ct La[i]).toArray) }).get? b = some o := fun b o e => Heap.get?_push_of_some _ e
    show wpAny _ A.in1 (updateSeq S (fun _ => #[.ref h1.objs.size]) >>= _) _ _ _
    have hS2 := up _ _ hS1
    refine wpAny_bind (wpAny_updateSeq hS2 rfl ?_)
    have hS3 := Heap.get?_update_self (Obj.mapSeq fun _ => #[Value.ref h1.objs.size]) hS2 rfl
    refine wpAny_bind (wpAny_letGo ?_)
    have szS : S < h1.objs.size := Heap.lt_size hS1
    have new := Heap.get?_push_size (h := h1) (o := { cls := .type "list", data := .seq (tot.toArray ++ (ct La[i]).toArray) }) rfl
    refine wpAny_bind (wpAny_updateSeq hS3 rfl (wpAny_pure ⟨plainId_quiet F.plain_sum_loop _, ?_⟩))
    have keep : ∀ b o, b ≠ S → h1.get? b = some o → (((h1.push { cls := .type "list", data := .seq (tot.toArray ++ (ct La[i]).toArray) }).update S (Obj.mapSeq fun _ => #[Value.ref h1.objs.size])).update S (Obj.mapSeq fun _ => #[Value.ref h1.objs.size])).get? b = some o := fun b o n1 e =>
      (Heap.get?_update_other _ _ (Ne.symm n1)).trans ((Heap.get?_update_other _ _ (Ne.symm n1)).trans (up b o e))
    have nT : (((h1.push { cls := .type "list", data := .seq (tot.toArray ++ (ct La[i]).toArray) }).update S (Obj.mapSeq fun _ => #[Value.ref h1.objs.size])).update S (Obj.mapSeq fun _ => #[Value.ref h1.objs.size])).get? h1.objs.size = some (lstO (tot ++ ct La[i]) 0) := by
      rw [Heap.get?_update_other _ _ (Nat.ne_of_lt szS), Heap.get?_update_other _ _ (Nat.ne_of_lt szS), new]
      simp
    obtain ⟨oI, hI1, hI2⟩ := id hit1
    refine ih (i + 1) _ h1.objs.size (tot ++ ct La[i]) _ 0 nl (by omega) lt ⟨oI, keep _ _ nIS hI1, hI2⟩ (keep _ _ nlS (k1 _ _ nlI hl)) (Heap.get?_update_self _ hS3 rfl) nT (Nat.ne_of_gt (Heap.lt_size hI1)) (Nat.ne_of_gt szS) (fun b hb => ?_) hz hzl fun h' tk T' n' kp eT z1 z2 => ?_
    · obtain ⟨m, e⟩ := hL b hb
      exact ⟨m, keep _ _ (nL b hb).2 (k1 _ _ (nL b hb).1 e)⟩
    · have none1 : ∀ b, b ≠ I → b ≠ S → (((h1.push { cls := .type "list", data := .seq (tot.toArray ++ (ct La[i]).toArray) }).update S (Obj.mapSeq fun _ => #[Value.ref h1.objs.size])).update S (Obj.mapSeq fun _ => #[Value.ref h1.objs.size])).get? b = none → s.heap.get? b = none := fun b n1 n2 e => by
        cases q : s.heap.get? b with
        | none => rfl
        | some o => rw [keep b o n2 (k1 b o n1 q)] at e; cases e
      refine fin h' tk T' n' (fun b o n1 n2 e => kp b o n1 n2 (keep b o n2 (k1 b o n1 e))) ?_ (fun z => by omega) fun _ => ?_
      · rw [dr, List.flatMap_cons, ← List.append_assoc]; exact eT
      · by_cases z : k = 0
        · rw [z1 z]
          cases q : s.heap.get? h1.objs.size with
          | none => rfl
          | some o =>
            by_cases zI : h1.objs.size = I
            · exact absurd (Heap.lt_size hI1) (by rw [zI]; exact Nat.lt_irrefl _)
            · exact absurd (Heap.lt_size (k1 _ o zI q)) (Nat.lt_irrefl _)
        · have e := z2 z
          refine none1 T' (fun y => ?_) (fun y => ?_) e
          · rw [y, keep _ _ nIS hI1] at e; cases e
          · rw [y, Heap.get?_update_self _ hS3 rfl] at e; cases e
theorem sum_call {l b0 : Addr} {La : List Addr} {ct : Addr → List Value} {s : Shared} {Q : Value → Shared → Prop} (hh : A.handled = none) {nl n0 : Nat} (hl : s.heap.get? l = some (lstO (La.map Value.ref) nl)) (h0 : s.heap.get? b0 = some (lstO [] n0)) (hL : ∀ b ∈ La, ∃ n, s.heap.get? b = some (lstO (ct b) n)) (hz : (La.flatMap ct).length ≤ sizeLine) (hzl : La.length ≤ sizeLine)
    (fin : ∀ (h' : Heap) (tk : Nat) (T' : Addr) (n' : Nat), (∀ b o, s.heap.get? b = some o → h'.get? b = some o) → h'.get? T' = some (lstO (La.flatMap ct) n') → (La = [] → T' = b0) → (La ≠ [] → s.heap.get? T' = none) → Q (.ref T') { s with heap := h', toks := tk }) :
    wpAny (model prog w) A (call (.builtin "sum") [.ref l, .ref b0]) Q E s := by
  refine call_function_tree F.kind_sum F.plain_sum F.entry_sum (args_sum2 _ _) ?_
  unfold Builtin.«sum»
  simp only [List.length_cons, List.length_nil]
  rw [if_neg (by decide)]
  refine wpAny_bind (wpAny_of_eq (show Builtin.Builtins.bindParams "sum" ["start"] 0 { pos := [Value.ref b0] } = pure [some (.ref b0)] from rfl) ?_)
  refine wpAny_bind (wpAny_pyIter_list (lst_is hl) ?_)
  refine wpAny_bind (wpAny_pure ?_)
  have up1 : ∀ b o, s.heap.get? b = some o → (s.heap.push { cls := .type "list_iterator", data := .fields #[.ref l, .int 0 0] }).get? b = some o := fun b o e => Heap.get?_push_of_some _ e
  have ty0 : Shared.TypeIs { s with heap := s.heap.push { cls := .type "list_iterator", data := .fields #[.ref l, .int 0 0] } } (.ref b0) "list" := ⟨_, up1 _ _ h0, rfl⟩
  simp only [List.forIn_cons, List.forIn_nil]
  refine wpAny_bind (wpAny_bind (wpAny_bind (wpAny_isInstance (T := "list") (b := false) ty0 F.sub_list_str ?_)))
  simp only [Bool.false_eq_true, if_false]
  refine wpAny_pure (wpAny_bind (wpAny_bind (wpAny_isInstance (T := "list") (b := false) ty0 F.sub_list_bytes ?_)))
  simp only [Bool.false_eq_true, if_false]
  refine wpAny_pure (wpAny_bind (wpAny_bind (wpAny_isInstance (T := "list") (b := false) ty0 (by rw [isSubtype_type]; kernel_rfl) ?_)))
  simp only [Bool.false_eq_true, if_false]
  refine wpAny_pure (wpAny_pure ?_)
  refine wpAny_bind (wpAny_newObj_type ?_)
  have up2 : ∀ b o, s.heap.get? b = some o → ((s.heap.push { cls := .type "list_iterator", data := .fields #[.ref l, .int 0 0] }).push { cls := .type "list", data := .seq [Value.ref b0].toArray }).get? b = some o := fun b o e => Heap.get?_push_of_some _ (up1 b o e)
  have sz1 : (s.heap.push ({ cls := .type "list_iterator", data := .fields #[.ref l, .int 0 0] } : Obj)).objs.size = s.heap.objs.size + 1 := Heap.size_push _ _
  have lts : ∀ b o, s.heap.get? b = some o → b < s.heap.objs.size := fun b o e => Heap.lt_size e
  refine wpAny_pure ⟨plainId_quiet F.plain_sum_loop _, ?_⟩
  show codeAny _ _ (.builtin "sum.loop" ⟨[.ref s.heap.objs.size, .ref (s.heap.push ({ cls := .type "list_iterator", data := .fields #[.ref l, .int 0 0] } : Obj)).objs.size, rawInt 2, rawInt 0], []⟩) _ _
  refine sum_lists (A := A) (La := La) (ct := ct) (l := l) hh (by rw [sz1]; exact Nat.ne_of_lt (Nat.lt_succ_self _)) (Nat.ne_of_lt (lts _ _ hl)) (by rw [sz1]; exact Nat.ne_of_lt (Nat.lt_succ_of_lt (lts _ _ hl))) (fun b hb => ?_) La.length 0 _ b0 [] 0 n0 nl (by omega) (Nat.zero_le _) ⟨_, Heap.get?_push_of_some _ (Heap.get?_push_size _ rfl), rfl, rfl⟩ (up2 _ _ hl) (Heap.get?_push_size _ rfl) (up2 _ _ h0)
    (Nat.ne_of_lt (lts _ _ h0)) (by rw [sz1]; exact Nat.ne_of_lt (Nat.lt_succ_of_lt (lts _ _ h0))) (fun b hb => ?_) (by simpa using hz) hzl fun h' tk T' n' kp eT z1 z2 => ?_
  · obtain ⟨m, e⟩ := hL b hb
    rw [sz1]
    exact ⟨Nat.ne_of_lt (lts _ _ e), Nat.ne_of_lt (Nat.lt_succ_of_lt (lts _ _ e))⟩
  · obtain ⟨m, e⟩ := hL b hb
    exact ⟨m, up2 _ _ e⟩
  · refine fin h' tk T' n' (fun b o e => ?_) (by simpa using eT) (fun z => z1 (by rw [z]; rfl)) fun z => ?_
    · exact kp b o (Nat.ne_of_lt (lts _ _ e)) (by rw [sz1]; exact Nat.ne_of_lt (Nat.lt_succ_of_lt (lts _ _ e))) (up2 _ _ e)
    · have e := z2 (fun y => z (List.length_eq_zero_iff.mp y))
      cases q : s.heap.get? T' with
      | none => rfl
      | some o => rw [up2 _ _ q] at e; cases e
end
section
variable {X : Cx} {P : Pm} {M : Md} {n : Nat}
def conV (H : Hp) (l : Addr) : List V := match H l with
  | some (.lst vs) => vs
  | _ => []
def conH (h : Heap) (l : Addr) : List Value := match h.get? l with
  | some ⟨_, _, .seq its _, _⟩ => its.toList
  | _ => []
def rSum2 : List V → Hp → VK → Prop := fun xs H Q => ∃ (a b : Addr) (ls : List Addr), xs = [.ref a, .ref b] ∧ H a = some (.lst (ls.map V.ref)) ∧ H b = some (.lst []) ∧ (∀ l ∈ ls, ∃ vs, H l = some (.lst vs)) ∧ (ls.flatMap (conV H)).length ≤ sizeLine ∧
  (ls = [] → Q (.ref b) H) ∧ (ls ≠ [] → ∀ p, H p = none → Q (.ref p) (upd H p (.lst (ls.flatMap (conV H)))))
theorem refs_of : ∀ {ls : List Addr} {us : List Value}, Vals (ls.map V.ref) us → us = ls.map Value.ref
  | [], us, r => by cases r; rfl
  | a :: ls, us, r => by
    cases r with
    | cons h t =>
      cases (show _ = Value.ref a from h)
      rw [refs_of t]; rfl
theorem cr_sum2 (hc : X.calm = true) : CallR X (.builtin "sum") rSum2 := by
  intro pins s σ H xs us Q I r h
  obtain ⟨a, b, ls, rfl, ha, hb, hl, hz, q1, q2⟩ := h
  obtain ⟨u1, u2, rfl, r1, r2⟩ := vals2 r
  cases (show u1 = Value.ref a from r1)
  cases (show u2 = Value.ref b from r2)
  obtain ⟨za, its, na, ra, _, ea⟩ := I.lstM ha
  obtain ⟨_, itb, nb, rb, _, eb⟩ := I.lstM hb
  rw [refs_of ra] at ea
  cases rb
  have con : ∀ l ∈ ls, ∃ m, s.heap.get? l = some (lstO (conH s.heap l) m) ∧ Vals (conV H l) (conH s.heap l) := fun l hm => by
    obtain ⟨vs, e⟩ := hl l hm
    obtain ⟨_, it, m, rl, _, el⟩ := I.lstM e
    have c1 : conH s.heap l = it := by unfold conH; rw [el]
    have c2 : conV H l = vs := by unfold conV; rw [e]
    rw [c1, c2]
    exact ⟨m, el, rl⟩
  have vf : ∀ l : List Addr, (∀ x ∈ l, x ∈ ls) → Vals (l.flatMap (conV H)) (l.flatMap (conH s.heap)) := by
    intro l
    induction l with
    | nil => exact fun _ => .nil
    | cons x l ih =>
      intro h
      rw [List.flatMap_cons, List.flatMap_cons]
      obtain ⟨_, _, rx⟩ := con x (h x List.mem_cons_self)
      exact rx.append (ih fun y hy => h y (List.mem_cons_of_mem _ hy))
  have vall := vf ls fun _ h => h
  refine sum_call (La := ls) (ct := conH s.heap) (I.ok.hd hc) ea eb (fun l hm => ?_) (by rw [← vall.length]; exact hz) (by rw [List.length_map] at za; exact za) fun h' tk T' n' kp eT z1 z2 => ?_
  · obtain ⟨m, e, _⟩ := con l hm
    exact ⟨m, e⟩
  · by_cases z : ls = []
    · rw [z1 z]
      exact ⟨.ref b, H, I.kept (t' := tk) kp, rfl, q1 z⟩
    · have g := z2 z
      have hn : H T' = none := I.hok.gone g
      exact ⟨.ref T', _, I.laidN (t' := tk) (o := .lst (ls.flatMap (conV H))) kp g hn ⟨hz, _, n', vall, eT⟩, rfl, q2 z T' hn⟩
theorem dlsts_ok {mg : Str → Option Value} {nm : Nm} {F H : Hp} (s : Sub F H) : ∀ {ds : List D} {vs : List V} {r : List D}, Reps mg nm F ds vs → dlsts ds = some r → ∃ ls : List Addr, vs = ls.map V.ref ∧ (∀ l ∈ ls, ∃ ws, H l = some (.lst ws)) ∧ Reps mg nm F r (ls.flatMap (conV H))
  | [], vs, r, h, e => by
    cases h
    cases e
    exact ⟨[], rfl, fun _ h => (by cases h), rfl⟩
  | d :: ds, vs, r, h, e => by
    obtain ⟨v, w, rfl, h1, h2⟩ := h
    cases d with
    | lst xs =>
      unfold dlsts at e
      cases q : dlsts ds with
      | none => rw [q] at e; cases e
      | some r2 =>
        rw [q] at e; cases e
        obtain ⟨a, us, rfl, e2, r3⟩ := h1
        obtain ⟨ls, rfl, k1, k2⟩ := dlsts_ok s h2 q
        have ha : H a = some (.lst us) := s _ _ e2
        refine ⟨a :: ls, rfl, fun l hl => ?_, ?_⟩
        · rcases List.mem_cons.mp hl with rfl | hl
          · exact ⟨us, ha⟩
          · exact k1 l hl
        · rw [List.flatMap_cons]
          have : conV H a = us := by unfold conV; rw [ha]
          rw [this]
          exact r3.append k2
    | _ => cases e
theorem f_sum2 : Fun X P .sum2 rSum2 := by
  intro F H vs ds o Q s v h k
  replace h : p_sum2 ds = some o := h
  unfold p_sum2 at h
  split at h <;> (try contradiction)
  · rename_i x0 xs
    obtain ⟨u, w, rfl, v1, v2⟩ := v.two
    obtain ⟨a, us, rfl, e1, r1⟩ := v1.list s
    obtain ⟨b, ws, rfl, e2, r2⟩ := v2.list s
    cases r2
    cases q : dlsts (x0 :: xs) with
    | none => rw [q] at h; cases h
    | some r =>
      rw [q] at h
      dsimp only at h
      split at h
      · rename_i lz
        cases h
        obtain ⟨ls, rfl, k1, k2⟩ := dlsts_ok s r1 q
        refine ⟨a, b, ls, rfl, e1, e2, k1, by rw [k2.length, sizeLine_eq]; exact lz, fun z => ?_, fun z p hp => k.list s k2 hp⟩
        subst z
        obtain ⟨_, _, z, _⟩ := r1
        cases z
      · cases h
variable {e : Expr} {es : List Expr} {xs : List Ex} {p pos : Pos}
theorem eSum2 (G : GA X P M n) (ha : PA X (e :: es) (tHs X.mg P xs)) (hg : L2.Gl X "sum" := by rfl) (he : starEach (e :: es) X.env = (false, eval e X.env) :: starEach es X.env := by rfl) (hp : (backTo pos (starEach es X.env)).any (·.1) = false := by rfl) : PE X (.Call (.Name "sum" p) (e :: es) [] pos) (tE X.mg P (.pr .sum2 xs)) := fB G (cr_sum2 G.gx.calm) f_sum2 ha (by decide) (by rfl) hg (by decide) (by decide) he hp
end
end Ev
end
section
set_option linter.all false
set_option maxRecDepth 100000
set_option maxHeartbeats 4000000
/-! Defs keep what the evaluator says. -/
namespace Ev
open PySem PySem.Spec PyProof.Rows L2
section
variable {mg : Str → Option Value} {nm : Nm} {T : Tab} {n : Nat}
theorem Owns.blocks {F H : Hp} : ∀ {os : List O} {vs : List V} {S : List Addr}, Owns mg nm F H os vs S → S.Nodup →
    ∃ B : Nat → List Addr, (∀ (i : Nat) o, os[i]? = some o → ∃ v, vs[i]? = some v ∧ Own mg nm F H o v (B i)) ∧ (∀ i : Nat, os[i]? = none → B i = []) ∧ (∀ i, (B i).Nodup ∧ ∀ a ∈ B i, a ∈ S) ∧ (∀ i j, i ≠ j → ∀ a ∈ B i, a ∉ B j) ∧ ∀ a ∈ S, ∃ i, a ∈ B i
  | [], vs, S, r, nd => by
    obtain ⟨rfl, rfl⟩ := r
    exact ⟨fun _ => [], fun i o e => by simp at e, fun i _ => rfl, fun i => ⟨List.nodup_nil, fun a h => (by cases h)⟩, fun i j _ a h => (by cases h), fun a h => (by cases h)⟩
  | o :: os, vs, S, r, nd => by
    obtain ⟨v, w, S1, S2, rfl, r1, r2, rfl⟩ := r
    obtain ⟨n1, n2, n3⟩ := List.nodup_append.mp nd
    obtain ⟨B, b1, b2, b3, b4, b5⟩ := Owns.blocks r2 n2
    refine ⟨fun i => match i with
      | 0 => S1
      | i + 1 => B i, fun i o' e => ?_, fun i e => ?_, fun i => ?_, fun i j hij a ha hb => ?_, fun a ha => ?_⟩
    · cases i with
      | zero => simp at e; subst e; exact ⟨v, rfl, r1⟩
      | succ i =>
        obtain ⟨v', e1, e2⟩ := b1 i o' (by simpa using e)
        exact ⟨v', by simpa using e1, e2⟩
    · cases i with
      | zero => simp at e
      | succ i => exact b2 i (by simpa using e)
    · cases i with
      | zero => exact ⟨n1, fun a h => List.mem_append_left _ h⟩
      | succ i => exact ⟨(b3 i).1, fun a h => List.mem_append_right _ ((b3 i).2 a h)⟩
    · cases i with
      | zero =>
        cases j with
        | zero => exact hij rfl
        | succ j => exact n3 a ha a ((b3 j).2 a hb) rfl
      | succ i =>
        cases j with
        | zero => exact n3 a hb a ((b3 i).2 a ha) rfl
        | succ j => exact b4 i j (fun z => hij (by rw [z])) a ha hb
    · rcases List.mem_append.mp ha with q | q
      · exact ⟨0, q⟩
      · obtain ⟨i, hi⟩ := b5 a q
        exact ⟨i + 1, hi⟩
theorem start_get {N : List Str} {vs : List V} {i : Nat} {v : V} (h : vs[i]? = some v) : (L2.start N vs)[i]? = some (some v) := by
  unfold L2.start
  obtain ⟨hi, rfl⟩ := List.getElem?_eq_some_iff.mp h
  rw [List.getElem?_append_left (by simpa using hi), List.getElem?_map, h]
  rfl
theorem start_some {N : List Str} {vs : List V} {i : Nat} {v : V} (h : (L2.start N vs)[i]? = some (some v)) : vs[i]? = some v := by
  unfold L2.start at h
  by_cases hi : i < vs.length
  · rw [List.getElem?_append_left (by simpa using hi), List.getElem?_map] at h
    cases e : vs[i]? with
    | none => rw [e] at h; cases h
    | some a => rw [e] at h; cases h; rfl
  · rw [List.getElem?_append_right (by simpa using hi), List.getElem?_replicate] at h
    split at h <;> cases h
theorem fin_ok {F' H' : Hp} {σ' : L2.St} {ε' ε2 : Env} {Z' : Nat → List Addr} {mp : List Nat} {N : List Str} {vs : List V} {fin : List O} (R : RelS mg nm F' H' σ' ε2 Z') (kp : Kp mp (L2.start N vs) σ') (ag : ∀ i ∈ mp, ε2 i = ε' i) (one : mp.length ≤ 1) (e : finals ε' mp = some fin) :
    ∃ S2, Owns mg nm F' H' fin (mp.filterMap (vs[·]?)) S2 ∧ S2.Nodup ∧ (∀ a ∈ S2, F' a = none) ∧ ∀ a ∈ S2, ∃ i, a ∈ Z' i := by
  cases mp with
  | nil =>
    unfold finals at e; cases e
    exact ⟨[], ⟨rfl, rfl⟩, List.nodup_nil, fun a h => (by cases h), fun a h => (by cases h)⟩
  | cons k r =>
    cases r with
    | cons _ _ => simp at one
    | nil =>
      unfold finals finals at e
      cases q : ε' k with
      | none => rw [q] at e; cases e
      | some o =>
        rw [q] at e; cases e
        obtain ⟨w, h1, h2⟩ := R.slot k o (by rw [ag k (by simp)]; exact q)
        rw [kp.on k (by simp)] at h1
        have hv := start_some h1
        refine ⟨Z' k, ?_, R.nd k, R.fr k, fun a h => ⟨k, h⟩⟩
        have : [k].filterMap (vs[·]?) = [w] := by simp [hv]
        rw [this]
        exact ⟨w, [], Z' k, [], rfl, h2, ⟨rfl, rfl⟩, by simp⟩
/-- a body does what the evaluator says -/
theorem body_ok {f : Nat} {fd : FnDef} (hT : T f = some fd) (one : fd.mp.length ≤ 1) {N : List Str} {vs : List V} {H : Hp} {Q : VK} {E : XK} (h : spEv mg nm T (n + 1) f vs H Q E) :
    tSs mg ⟨nm, callN T n, T.sg, fd.mp, fun c d _ H => E c d H⟩ fd.body { nx := fun _ H' => Q .non H', rt := Q } (L2.start N vs) H := by
  obtain ⟨fd', F, args, S, hT', hl, sub, ow, nd, fr, post⟩ := h
  rw [hT] at hT'; cases hT'
  rw [callN, hT] at post
  dsimp only at post
  rw [if_pos hl] at post
  obtain ⟨B, b1, b2, b3, b4, b5⟩ := ow.blocks nd
  have R0 : RelS mg nm F H (L2.start N vs) (fun i => args[i]?) B := ⟨sub, fun i o e => by
    obtain ⟨v, hv, w⟩ := b1 i o e
    exact ⟨v, start_get hv, w⟩, b2, fun i => (b3 i).1, b4, fun i a ha => fr a ((b3 i).2 a ha)⟩
  refine ⟨F, B, fun i => args[i]?, R0, ?_⟩
  have ce : ∀ {F' H' : Hp} {Z' : Nat → List Addr} {S1 S2 : List Addr}, Stp F H B F' H' Z' → Sub F' H' → (S1 ++ S2).Nodup → (∀ a ∈ S1 ++ S2, F' a = none) → (∀ a ∈ S1 ++ S2, H a = none ∨ ∃ i, a ∈ B i) → CallEnd F H S F' H' (S1 ++ S2) := fun {F' H' Z' S1 S2} s u n1 n2 n3 => by
    refine ⟨s.sub, u, fun a o e hs => s.keep a o e fun i hi => hs ((b3 i).2 a hi), s.dom, fun a e => ?_, n1, n2, fun a ha => ?_⟩
    · rcases s.newF a e with q | q | ⟨i, q⟩
      · exact .inl q
      · exact .inr (.inl q)
      · exact .inr (.inr ((b3 i).2 a q))
    · rcases n3 a ha with q | ⟨i, q⟩
      · exact .inl q
      · exact .inr ((b3 i).2 a q)
  have zNew : ∀ {F' H' : Hp} {Z' : Nat → List Addr} {S2 : List Addr}, Stp F H B F' H' Z' → (∀ a ∈ S2, ∃ i, a ∈ Z' i) → ∀ a ∈ S2, H a = none ∨ ∃ i, a ∈ B i := fun {F' H' Z' S2} s h a ha => by
    obtain ⟨i, hi⟩ := h a ha
    exact s.newZ i a hi
  show After (evSs (callN T n) T.sg fd.mp fd.body fun i => args[i]?) _ _
  cases q : evSs (callN T n) T.sg fd.mp fd.body fun i => args[i]? with
  | bad => rw [q] at post; exact post.elim
  | ok fl ε' =>
    rw [q] at post
    cases fl with
    | next =>
      unfold outOf at post
      dsimp only at post
      cases qf : finals ε' fd.mp with
      | none => rw [qf] at post; exact post.elim
      | some fin =>
        rw [qf] at post
        dsimp only at post
        intro F' H' Z' σ' s R kp
        obtain ⟨S2, o2, n2, f2, z2⟩ := fin_ok R kp (fun _ _ => rfl) one qf
        exact post F' H' .non [] S2 (ce s R.sub n2 f2 (zNew s z2)) ⟨rfl, rfl⟩ o2
    | ret o =>
      unfold outOf at post
      dsimp only at post
      cases qf : finals ε' fd.mp with
      | none => rw [qf] at post; exact post.elim
      | some fin =>
        rw [qf] at post
        dsimp only at post
        intro F' H' Z' σ' ε2 v S1 s R kp ag ow1 t1
        obtain ⟨S2, o2, n2, f2, z2⟩ := fin_ok R kp ag one qf
        refine post F' H' v S1 S2 (ce s R.sub (List.nodup_append.mpr ⟨t1.nd, n2, fun a ha b hb e => ?_⟩) (fun a ha => ?_) fun a ha => ?_) ow1 o2
        · subst e
          obtain ⟨i, hi⟩ := z2 a hb
          exact t1.dj a ha i hi
        · exact (List.mem_append.mp ha).elim (t1.fr a) (f2 a)
        · exact (List.mem_append.mp ha).elim (t1.new a) (zNew s z2 a)
  | exc c d ε' =>
    rw [q] at post
    unfold outOf at post
    dsimp only at post
    cases qf : finals ε' fd.mp with
    | none => rw [qf] at post; exact post.elim
    | some fin =>
      rw [qf] at post
      dsimp only at post
      intro F' H' Z' σ' C dx v s R kp hC h0 hx rp
      obtain ⟨S2, o2, n2, f2, z2⟩ := fin_ok R kp (fun _ _ => rfl) one qf
      exact post F' H' C dx v S2 (ce (S1 := []) s R.sub n2 f2 (zNew s z2)) hC h0 hx rp o2
theorem spEv_len {f : Nat} {fd : FnDef} (hT : T f = some fd) {vs : List V} {H : Hp} {Q : VK} {E : XK} (h : spEv mg nm T n f vs H Q E) : vs.length = fd.ps := by
  obtain ⟨fd', F, args, S, hT', hl, sub, ow, _⟩ := h
  rw [hT] at hT'; cases hT'
  rw [Owns.length ow, hl]
end
/-- a def by its body -/
theorem fnG_of {prg : Program} {wo : World} {K : PySem.W.Frag} {mg : Str → Option Value} {base : Heap} {n : Nat} {fa : Addr} {name qual : Str} {params : Arguments} {body : List Stmt} {scope : Scope} {dV kV doc pm cdv ct oc : Value} {an od : Option Addr} {osl : Array (Option Value)} {N ps : List Str} {sp : Sp}
    (at_ : K.lookup fa = some ⟨oc, od, .func (PySem.W.fnOf name qual params body scope dV kV doc pm an cdv ct), osl⟩) (code : PySem.W.codeIn K cdv qual = true) (sc : FnScope N ps scope) (len : ∀ xs H0 Q0 E0, sp xs H0 Q0 E0 → xs.length = ps.length)
    (run : ∀ (A0 : Around) (out : List PySem.Env) (s0 : Shared) (H0 : Hp) (xs : List V) (Q0 : VK) (E0 : XK), A0.guards = some [] → Room n (A0.deeper (envOfC qual scope s0.heap.objs.size fa cdv)) → sp xs H0 Q0 E0 →
      ∃ t, PSs (cxOf (L2.CX prg wo) prg wo K mg base N qual scope fa cdv A0 out s0 H0 E0) body t ∧ t { nx := fun _ H' => Q0 .non H', rt := Q0 } (L2.start N xs) H0) :
    FnG prg wo K mg base (n + 1) fa (PySem.W.fnOf name qual params body scope dV kV doc pm an cdv ct) ps sp := by
  refine ⟨len, fun A0 out s0 H0 ar us xs Q0 E0 gd room e0 bd r hsp => ?_⟩
  have n1 := len _ _ _ _ hsp
  have KH : K.In s0.heap := e0.mod.kin.keeps fun b o e => (e0.bs b o e).1
  have LH : s0.heap.NoLimit := e0.mod.nolimit.keeps fun b o e => (e0.bs b o e).1
  have kinds : ∀ q ∈ ps.zip us, scope.names.lookup q.1 = some .local ∨ (scope.names.lookup q.1 = some .cell ∧ ((cellsFrom (s0.heap.objs.size + 1) scope.names []).lookup q.1).isSome = true) := fun q hq => by
    obtain ⟨m, v⟩ := q
    exact (sc.par m (List.of_mem_zip hq).1).imp id fun k => ⟨k, PySem.W.cellsFrom_some _ _ _ (.inl k)⟩
  refine codeAny_call_function room.depth (KH _ _ at_) rfl sc.co sc.gen rfl (PySem.W.codeRec_of KH code) (bd _ _ _ _ (wpAny_newFunctionEnv_cells sc.kind kinds fun env he s1 x => ?_))
  subst he
  obtain ⟨t, ht, hq⟩ := run A0 out s0 H0 xs Q0 E0 gd (room.deeper _) hsp
  refine ⟨LH.keeps x.toInCall.keep, codeAny_func (wpAny_mono (ht.run [] s1 (L2.start N xs) H0 _ (inv_start sc room.hd e0 n1 r x) hq) (fun fl s2 got => ?_) fun e s2 he => he)⟩
  cases fl with
  | ret u =>
    obtain ⟨v, σ2, H2, J, rv, q⟩ := got
    exact ⟨v, H2, J.os, J.bare, J.base, J.hok, rv, q⟩
  | next =>
    obtain ⟨σ2, H2, J, q⟩ := got
    exact ⟨.non, H2, J.os, J.bare, J.base, J.hok, rfl, q⟩
  | brk => obtain ⟨_, _, _, q⟩ := got; exact q.elim
  | cont => obtain ⟨_, _, _, q⟩ := got; exact q.elim
end Ev
end
section
set_option linter.all false
set_option maxRecDepth 100000
set_option maxHeartbeats 4000000
/-! A module's defs, one by one; the law's end. -/
namespace Ev
open PySem PySem.Spec PyProof.Rows L2
/-- what the written part says of the module, beside its defs -/
structure MF (prg : Program) (K : PySem.W.Frag) (mg : Str → Option Value) (M : Md) : Prop where
  one : ∀ f fd, M.T f = some fd → fd.mp.length ≤ 1
  blt : ∀ x ∈ bltN, mg x = none
  nums : ∀ x i, M.it x = some i → ∃ t, mg (M.nm.int x) = some (.int i t)
  clsx : ∀ c, c < M.nc → ∃ C, mg (M.nm.cls c) = some (.ref C)
  tot : ∀ f a, mg (M.nm.fn f) = some (.ref a) → PySem.W.keepIn K (.ref a) = true
  base : ∃ cv, mg M.bs = some cv ∧ ∀ k C, mg (M.nm.cls k) = some (.ref C) → PySem.W.exmOne K (.ref C) cv = some true
  exs : ∀ c C, mg (M.nm.cls c) = some (.ref C) → ∃ fI, ETxt prg K mg (M.nm.cls c) C fI
  apart : Apart K mg M.nm
  kk : M.nm.K = K
abbrev Pd (M : Md) (n : Nat) (fd : FnDef) (E : XK) : Pm := ⟨M.nm, callN M.T n, M.T.sg, fd.mp, fun c d _ H => E c d H⟩
/-- one def: where it stands, its text, its body's proof -/
def DefOk (prg : Program) (wo : World) (K : PySem.W.Frag) (mg : Str → Option Value) (M : Md) (f : Nat) (fd : FnDef) : Prop :=
  ∃ (a : Addr) (name qual : Str) (params : Arguments) (body : List Stmt) (scope : Scope) (dV kV doc pm cdv ct oc : Value) (an od : Option Addr) (osl : Array (Option Value)) (N : List Str),
    mg (M.nm.fn f) = some (.ref a) ∧ K.lookup a = some ⟨oc, od, .func (PySem.W.fnOf name qual params body scope dV kV doc pm an cdv ct), osl⟩ ∧ PySem.W.codeIn K cdv qual = true ∧ PySem.W.keepIn K (.ref a) = true ∧ FnScope N (M.pn f) scope ∧ (M.pn f).length = fd.ps ∧
    (∀ us : List Value, us.length = (M.pn f).length → bindArgs (PySem.W.fnOf name qual params body scope dV kV doc pm an cdv ct) ⟨us, []⟩ = pure ((M.pn f).zip us)) ∧
    (∀ q ∈ M.kt f, q.2.Nodup ∧ ∀ ws : List Value, ws.length = q.1.length → bindArgs (PySem.W.fnOf name qual params body scope dV kV doc pm an cdv ct) ⟨[], q.1.zip ws⟩ = pure ((M.pn f).zip (q.2.filterMap (ws[·]?)))) ∧
    ∀ (base : Heap) (n : Nat) (A0 : Around) (out : List PySem.Env) (s0 : Shared) (H0 : Hp) (E0 : XK), GA (cxOf (L2.CX prg wo) prg wo K mg base N qual scope a cdv A0 out s0 H0 E0) (Pd M n fd E0) M n → PSs (cxOf (L2.CX prg wo) prg wo K mg base N qual scope a cdv A0 out s0 H0 E0) body (tSs mg (Pd M n fd E0) fd.body)
theorem all_ok {prg : Program} {wo : World} {K : PySem.W.Frag} {mg : Str → Option Value} {M : Md} (F : MF prg K mg M) (defs : ∀ f fd, M.T f = some fd → DefOk prg wo K mg M f fd) (base : Heap) : ∀ n f fd, M.T f = some fd →
    ∃ a fo, mg (M.nm.fn f) = some (.ref a) ∧ PySem.W.keepIn K (.ref a) = true ∧ FnG prg wo K mg base n a fo (M.pn f) (spEv mg M.nm M.T n f) ∧ (M.pn f).length = fd.ps ∧ (∀ us : List Value, us.length = (M.pn f).length → bindArgs fo ⟨us, []⟩ = pure ((M.pn f).zip us)) ∧
      ∀ q ∈ M.kt f, q.2.Nodup ∧ ∀ ws : List Value, ws.length = q.1.length → bindArgs fo ⟨[], q.1.zip ws⟩ = pure ((M.pn f).zip (q.2.filterMap (ws[·]?)))
  | 0, f, fd, hT => by
    obtain ⟨a, name, qual, params, body, scope, dV, kV, doc, pm, cdv, ct, oc, an, od, osl, N, h1, h2, h3, h4, h5, h6, h7, h8, h9⟩ := defs f fd hT
    refine ⟨a, _, h1, h4, ⟨fun xs H0 Q0 E0 q => (spEv_len hT q).trans h6.symm, fun A0 out s0 H0 ar us xs Q0 E0 _ _ _ _ _ q => ?_⟩, h6, h7, h8⟩
    obtain ⟨_, _, _, _, _, _, _, _, _, _, post⟩ := q
    rw [callN] at post
    exact post.elim
  | n + 1, f, fd, hT => by
    have ih := all_ok F defs base n
    obtain ⟨a, name, qual, params, body, scope, dV, kV, doc, pm, cdv, ct, oc, an, od, osl, N, h1, h2, h3, h4, h5, h6, h7, h8, h9⟩ := defs f fd hT
    refine ⟨a, _, h1, h4, fnG_of h2 h3 h5 (fun xs H0 Q0 E0 q => (spEv_len hT q).trans h6.symm) fun A0 out s0 H0 xs Q0 E0 gd room q => ?_, h6, h7, h8⟩
    refine ⟨_, h9 base n A0 out s0 H0 E0 ?_, body_ok hT (F.one f fd hT) q⟩
    obtain ⟨cv, b1, b2⟩ := F.base
    exact ⟨⟨rfl, rfl, F.one, h5.nd, rfl, room, gd, takes_of rfl rfl rfl rfl, ih, F.tot, F.apart, F.kk⟩, rfl, F.blt, F.nums, F.clsx, ⟨cv, b1, ⟨F.exs, b2, F.apart⟩⟩⟩
/-- the law, called -/
theorem law_run {prg : Program} {wo : World} {K : PySem.W.Frag} {mg mb : Str → Option Value} {k : Nat} {fa a : Addr} {fd : FuncData} {x : Str} {sp : Sp} {s₁ : Shared} {vs : List Value} {ns : List Int}
    (KX : K.In s₁.heap) (hns : s₁.heap.Ns mainGlobals mg) (hb : s₁.heap.Ns builtinsNs mb) (hbb : ∀ x : Str, x ≠ "__name__" → mb x = bootBuiltins x) (hlim : s₁.heap.NoLimit) (hg : s₁.gens = #[])
    (ha : s₁.heap.get? a = some { cls := .type "list", data := .seq vs.toArray }) (hi : IntsAre vs ns) (hl : ns.length ≤ sizeLine) (hr : Room k callerA)
    (F : ∀ base : Heap, K.In base → base.Ns mainGlobals mg → FnG prg wo K mg base k fa fd [x] sp) (hbind : ∀ (s : Shared) (u : Value), BindsTo s fd ⟨[u], []⟩ [(x, u)])
    (hsp : ∀ H : Hp, Only H → SqL K H a (ns.map V.int) → sp [.ref a] H (fun v _ => v = .bl true) fun _ _ _ => False) :
    codeAny (model prg wo) callerA (.call (.ref fa) ⟨[.ref a], []⟩) (fun r s' => r = .ok (.ret (.bool true)) ∧ OldK s₁.heap s'.heap ∧ s'.os = s₁.os ∧ AllBare s'.gens) s₁ := by
  have vints := vals_ints hi
  have size := hi.length
  have go : ∀ H : Hp, Only H → SqL K H a (ns.map V.int) → HOk prg wo H s₁.heap → (∀ b, H b ≠ none → b = a) → (H a ≠ none → K.lookup a = none) →
      codeAny (model prg wo) callerA (.call (.ref fa) ⟨[.ref a], []⟩) (fun r s' => r = .ok (.ret (.bool true)) ∧ OldK s₁.heap s'.heap ∧ s'.os = s₁.os ∧ AllBare s'.gens) s₁ := by
    intro H only sq hok atA notK
    have below : ∀ {b : Addr} {o : Obj}, s₁.heap.get? b = some o → H b = none → (hidT s₁.heap H).get? b = some o := fun e n => hidT_get e n
    have dicts : ∀ {b : Addr} {o : Obj} {es : Array DictEntry} {ep : Nat}, s₁.heap.get? b = some o → o.data = .dict es ep → H b = none := fun {b o es ep} e d => by
      cases q : H b with
      | none => rfl
      | some u =>
        have e' := atA b (by rw [q]; exact fun z => by cases z)
        rw [e', ha] at e
        cases e
        exact absurd (show Data.seq vs.toArray _ = Data.dict es ep from d) (fun z => by cases z)
    have spaces : ∀ {b : Addr} {m : Str → Option Value}, s₁.heap.Ns b m → (hidT s₁.heap H).Ns b m := fun {b m} h => by
      obtain ⟨o, es, ep, e, d, r⟩ := h
      exact ⟨o, es, ep, below e (dicts e d), d, r⟩
    have inB : K.In (hidT s₁.heap H) := fun b o e => below (KX b o e) (by
      cases q : H b with
      | none => rfl
      | some u =>
        have e' := atA b (by rw [q]; exact fun z => by cases z)
        rw [e', notK (by rw [← e', q]; exact fun z => by cases z)] at e
        cases e)
    obtain ⟨mc, l1, l2⟩ := hlim
    have start0 : Env0 prg wo K mg (hidT s₁.heap H) callerA [] s₁ H := ⟨rfl, ⟨inB, spaces hns, ⟨mb, spaces hb, hbb⟩, ⟨mc, spaces l1, l2⟩⟩, fun b o e => of_hidT e, Nat.le_of_eq (hidT_size _ _), trivial, fun b z => (by cases z), hok, .of_eq hg⟩
    refine codeAny_mono ((F _ inB (spaces hns)).run callerA [] s₁ H ⟨[.ref a], []⟩ [.ref a] [.ref a] _ _ rfl hr start0 (hbind s₁ (.ref a)) (.cons rfl .nil) (hsp H only sq)) fun r s' h => ?_
    match r, h with
    | .error e, h =>
      obtain ⟨_, _, _, _, _, _, _, _, _, _, _, _, z⟩ := h
      exact z.elim
    | .ok (.ret u), h =>
      obtain ⟨v, H', os, bare, un, hok', r', q⟩ := h
      have q' : v = .bl true := q
      subst q'
      cases (show u = Value.bool true from r')
      refine ⟨rfl, OldK.of_keep fun b o e => ?_, os, bare⟩
      cases q : H b with
      | none => exact un.keep b o e q (fun z => by cases z) (fun z => by cases z)
      | some u =>
        rcases only b with z | ⟨ob, xs, z⟩
        · rw [q] at z; cases z
        · have e1 := (hok b _ z).1
          have e2 := (hok' b _ (un.frzs b ob _ z)).1
          rw [e] at e1; cases e1
          exact e2
    | .ok .next, h => exact False.elim h
    | .ok .brk, h => exact False.elim h
    | .ok .cont, h => exact False.elim h
  cases hk : K.lookup a with
  | some o =>
    have e := KX a o hk
    rw [ha] at e
    cases e
    exact go (fun _ => none) (fun _ => .inl rfl) (.inr ⟨_, vs.toArray, _, hk, rfl, rfl, rfl, by rw [List.size_toArray, size]; exact hl, by simpa using vints⟩) (fun b u z => (by cases z)) (fun b z => absurd rfl z) fun z => absurd rfl z
  | none =>
    refine go (fun b => if b = a then some (.frz { cls := .type "list", data := .seq vs.toArray } (.lst (ns.map V.int))) else none) (fun b => ?_) (.inl (.inr ⟨{ cls := .type "list", data := .seq vs.toArray }, if_pos rfl⟩)) (fun b u z => ?_) (fun b z => ?_) fun _ => hk
    · by_cases c : b = a
      · exact .inr ⟨_, _, if_pos c⟩
      · exact .inl (if_neg c)
    · dsimp only at z
      split at z
      · rename_i c
        cases z
        subst c
        exact ⟨ha, by rw [List.length_map]; exact hl, vs, _, vints, ha⟩
      · cases z
    · by_cases c : b = a
      · exact c
      · exact absurd (if_neg c) z
theorem law_end {l : PySem.W.OpenLaw} {m k : Nat} {q : Program} {loose : List Str} {XP : (Str → Option Value) → Heap → Prop} {YP : World → Heap → Prop} {d : DefRec} {x : Str}
    (hn : l.most = some m) (hn2 : m ≤ sizeLine) (hdf : d.params.defaults = []) (hr : Room k callerA)
    (F : ∀ (wo : World) (mg : Str → Option Value) (fa : Addr) (h : Heap), YP wo h → h.Ns mainGlobals mg → mg d.name = some (.ref fa) →
      ∃ (K : PySem.W.Frag) (fd : FuncData) (sp : Sp), K.In h ∧ (∀ (s : Shared) (u : Value), BindsTo s fd ⟨[u], []⟩ [(x, u)]) ∧
        (∀ (H : Hp) (a : Addr) (ns : List Int), ns.length ≤ m → Only H → SqL K H a (ns.map V.int) → sp [.ref a] H (fun v _ => v = .bl true) fun _ _ _ => False) ∧ ∀ base : Heap, K.In base → base.Ns mainGlobals mg → FnG l.prog wo K mg base k fa fd [x] sp) :
    PySem.W.WalkO q loose XP YP l.row.toRowW d [] (fun f vs => PySem.call f vs) := by
  refine Att.attach_call hn hdf fun wo s₀ s₁ mg mb fa o pm cd doc a vs ns G Y ho hd hcd hmg hobj hints hlen hg => ?_
  obtain ⟨K, fd, sp, KX, hb, hsp, hF⟩ := F wo mg fa _ Y G.T.g hmg
  exact law_run KX G.T.g G.T.b G.T.builtins G.T.nolimit hg hobj hints (Nat.le_trans hlen hn2) hr hF hb (fun H hO hS => hsp H a ns hlen hO hS)
end Ev
end
section
set_option linter.all false
set_option maxRecDepth 100000
set_option maxHeartbeats 4000000
/-! The head: what the written part says of the classes, read by a Hook. -/
namespace Ev
open PySem PySem.Spec PyProof.Rows L2
/-- an own error class: its name, its __init__'s qualified name, the thirteen places of the text -/
structure ClD where
  x : Str
  qual : Str
  p1 : Pos
  p2 : Pos
  p3 : Pos
  a1 : Pos
  a2 : Pos
  a3 : Pos
  a4 : Pos
  a5 : Pos
  a6 : Pos
  b1 : Pos
  b2 : Pos
  b3 : Pos
  b4 : Pos
def ClD.pa (d : ClD) : Arguments := iArgs d.p1 d.p2 d.p3
def ClD.bo (d : ClD) : List Stmt := iBody d.a1 d.a2 d.a3 d.a4 d.a5 d.a6 d.b1 d.b2 d.b3 d.b4
def ClD.c (K : W.Frag) (d : ClD) : Addr := He.ga K d.x
def ClD.f (K : W.Frag) (d : ClD) : Addr := He.ma K (d.c K) "__init__"
abbrev ClV : Type := Option (Str × Str × Arguments × FuncBody × Scope × Addr × List Str × Addr)
def ClD.obs (K : W.Frag) (d : ClD) : ClV := match K.lookup (d.f K) with
  | some ⟨_, _, .func fd, _⟩ => some (fd.name, fd.qualname, fd.params, fd.body, fd.scope, fd.globals, fd.closure.map (·.1), fd.builtins)
  | _ => none
def ClD.val (d : ClD) : ClV := some ("__init__", d.qual, d.pa, .stmts d.bo, iScope, mainGlobals, ["__class__"], builtinsNs)
def clsB (K : W.Frag) (C : Addr) : Bool := match K.lookup C with
  | some ⟨.type "type", _, .cls cd, sl⟩ => (match cd.mro, sl.toList with
    | .ref C' :: bm, [_, _, _, _, some (.builtin n), _] => decide (C' = C) && (decide (n = "ValueError.__new__") && (cd.hasDict && (!cd.hasDel && HandSPX.refsVE bm)))
    | _, _ => false)
  | _ => false
def fnB (K : W.Frag) (f C : Addr) (q file : Str) : Bool := match K.lookup f with
  | some ⟨_, _, .func fd, _⟩ => W.codeIn K fd.code q && ((match fd.code with
      | .ref cda => (match K.lookup cda with
        | some ⟨_, _, .fields vs, _⟩ => (match vs.toList with
          | _ :: _ :: .str z _ :: _ => decide (z = file)
          | _ => false)
        | _ => false)
      | _ => false) && ((match fd.closure with
      | [(_, cc)] => (match K.lookup cc with
        | some ⟨_, _, .cell (some (.ref C')), _⟩ => decide (C' = C)
        | _ => false)
      | _ => false) && (match fd.defaults with
      | .ref T => (match K.lookup T with
        | some ⟨_, _, .seq its _, _⟩ => (match its.toList with
          | [.none] => true
          | _ => false)
        | _ => false)
      | _ => false)))
  | _ => false
def ClD.ok (K : W.Frag) (file : Str) (d : ClD) : Bool :=
  decide (W.nsIn K mainGlobals d.x = some (some (.ref (d.c K)))) && (clsB K (d.c K) && (fnB K (d.f K) (d.c K) d.qual file &&
  (decide (W.findIn K (.ref (d.c K)) "__setattr__" = some (some (.builtin "object.__setattr__"))) && (decide (W.findIn K (.ref (d.c K)) "value" = some none) &&
  (decide (W.findIn K (.ref (d.c K)) "__init__" = some (some (.ref (d.f K)))) && (decide (W.typeIn K (.ref (d.f K)) = some (.type "function")) && (W.keepIn K (.ref (d.c K)) &&
  (decide (W.subIn K (.ref (d.c K)) (.type "BaseException") = some true) && (decide (W.typeIn K (.ref (d.c K)) = some (.type "type")) && (W.hasDictIn K (d.c K) &&
  (decide (W.ks_superIn K (d.c K) (d.c K) "__init__" = some (some (.builtin "ValueError.__init__"))) && (decide (W.subIn K (.ref (d.c K)) (.type "ValueError") = some true) &&
  (decide (W.mroIn K (d.c K) (.ref (d.c K)) = some true) && (decide (W.nsIn K cStatics "thirdparty.any" = some none) &&
  ((W.clsIn K (d.c K)).isSome && (decide (W.findIn K (.ref (d.c K)) "__getattribute__" = some (some (.builtin "BaseException.__getattribute__"))) && (decide (W.findIn K (.ref (d.c K)) "__getattr__" = some none) &&
  (decide (W.findIn K (.ref (d.c K)) "__class__" = some (some (.builtin "object.__class__"))) && (decide (W.specialIn K (.builtin "object.__class__") "__get__" = some (some (.builtin "getset_descriptor.__get__"))) &&
  (decide (W.takesIn K (.builtin "object.__class__") = some true) && decide (W.mroIn K (d.c K) (.type "object") = some true)))))))))))))))))))))
def ClD.Ev (d : ClD) : Prop := ∀ env : PySem.Env, ∃ pl : Sem Bool, eval (.Call (.Attribute (.Call (.Name "super" d.a1) [] [] d.a2) "__init__" d.a3) [.Name "value" d.a4] [] d.a5) env = (do
      let ov ← attributeBase (.Call (.Name "super" d.a1) [] [] d.a2) "__init__" env (eval (.Call (.Name "super" d.a1) [] [] d.a2) env)
      standAt d.a3.atName
      let (f, first) ← holding [ov] (getMethod ov "__init__" pl)
      callWith d.a5 f first (backTo d.a5 (starEach [.Name "value" d.a4] env)) [])
def exD : ClD := ⟨"InvalidWeb", "InvalidWeb.__init__", ⟨6, 17, 6, 21⟩, ⟨6, 23, 6, 28⟩, ⟨6, 29, 6, 33⟩, ⟨7, 8, 7, 13⟩, ⟨7, 8, 7, 15⟩, ⟨7, 8, 7, 24⟩, ⟨7, 25, 7, 30⟩, ⟨7, 8, 7, 31⟩, ⟨7, 8, 7, 31⟩, ⟨8, 8, 8, 12⟩, ⟨8, 8, 8, 18⟩, ⟨8, 21, 8, 26⟩, ⟨8, 8, 8, 26⟩⟩
example : exD.Ev := fun env => ⟨_, rfl⟩
theorem bind_in {K : W.Frag} {q : Str} {p1 p2 p3 : Pos} {body : List Stmt} {dV kV doc pm cdv ct : Value} {an : Option Addr} {cc T : Addr} {o : Obj} {items : Array Value} {n : Nat} (hd : dV = .ref T) (ho : K.lookup T = some o) (hs : o.data = .seq items n) (hi : items.toList = [.none]) (s : Shared) (u v : Value) (X : K.In s.heap) :
    BindsTo s (W.ksFn "__init__" q (iArgs p1 p2 p3) body iScope dV kV doc pm an cdv ct cc) ⟨[u, v], []⟩ [("self", u), ("value", v)] := by
  subst hd
  have hi' : items = #[.none] := by rw [← Array.toList_inj]; exact hi
  subst hi'
  exact W.binds_K X rfl ho hs rfl rfl
end Ev
end
section
set_option linter.all false
set_option maxRecDepth 100000
set_option maxHeartbeats 4000000
/-! The head: the classes' facts. -/
namespace Ev
open PySem PySem.Spec PyProof.Rows L2
section
variable {K : W.Frag} {h : Heap} {mg : Str → Option Value} {prog : Program} {d : ClD} {file : Str}
theorem clsB_ok {C : Addr} (c : clsB K C = true) : ∃ nn q N bs bm sn sub ab col dd k0 k1 k2 k3 k5, K.lookup C = some (excClassObj nn q C N bs bm true sn sub ab col dd k0 k1 k2 k3 k5 "ValueError.__new__") ∧ HandSPX.refsVE bm = true := by
  unfold clsB at c
  split at c
  · rename_i cd sl e
    split at c
    · rename_i C' bm k0 k1 k2 k3 n k5 e1 e2
      simp only [Bool.and_eq_true, decide_eq_true_eq, Bool.not_eq_true'] at c
      obtain ⟨c1, c2, c3, c4, c5⟩ := c
      obtain ⟨nn, bs, mro, N, q, hd, sn, sub, ab, col, del⟩ := cd
      dsimp only at e1 c3 c4
      subst c1 c2 e1 c3 c4
      have e3 : sl = #[k0, k1, k2, k3, some (.builtin "ValueError.__new__"), k5] := by rw [← Array.toList_inj]; exact e2
      subst e3
      exact ⟨_, _, _, _, bm, _, _, _, _, _, _, _, _, _, _, e, c5⟩
    · cases c
  · cases c
theorem fnB_ok {f C : Addr} {q : Str} {d : ClD} (ev : d.Ev) (hf : (prog.main.file == file) = true) (o : d.obs K = d.val) (hq : d.qual = q) (hff : d.f K = f) (c : fnB K f C q file = true) :
    ∃ (oc : Value) (od : Option Addr) (q : Str) (dV kV doc pm : Value) (an : Option Addr) (cda : Addr) (ct : Value) (osl : Array (Option Value)) (cc : Addr) (p1 p2 p3 a1 a2 a3 a4 a5 a6 b1 b2 b3 b4 : Pos) (ccl : Value) (cdd : Option Addr) (vs : Array Value) (ccs : Array (Option Value)) (file : Str) (tf : Tok) (cl : Value) (cld : Option Addr) (csl : Array (Option Value)),
    K.lookup f = some ⟨oc, od, .func (W.ksFn "__init__" q (iArgs p1 p2 p3) (iBody a1 a2 a3 a4 a5 a6 b1 b2 b3 b4) iScope dV kV doc pm an (.ref cda) ct cc), osl⟩ ∧ W.codeIn K (.ref cda) q = true ∧
    K.lookup cda = some ⟨ccl, cdd, .fields vs, ccs⟩ ∧ vs[2]? = some (.str file tf) ∧ ((prog.main.file : Str) == file) = true ∧ K.lookup cc = some ⟨cl, cld, .cell (some (.ref C)), csl⟩ ∧
    (∀ env : PySem.Env, ∃ pl : Sem Bool, eval (.Call (.Attribute (.Call (.Name "super" a1) [] [] a2) "__init__" a3) [.Name "value" a4] [] a5) env = (do
      let ov ← attributeBase (.Call (.Name "super" a1) [] [] a2) "__init__" env (eval (.Call (.Name "super" a1) [] [] a2) env)
      standAt a3.atName
      let (f, first) ← holding [ov] (getMethod ov "__init__" pl)
      callWith a5 f first (backTo a5 (starEach [.Name "value" a4] env)) [])) ∧
    ∀ (s : Shared) (u v : Value), K.In s.heap → BindsTo s (W.ksFn "__init__" q (iArgs p1 p2 p3) (iBody a1 a2 a3 a4 a5 a6 b1 b2 b3 b4) iScope dV kV doc pm an (.ref cda) ct cc) ⟨[u, v], []⟩ [("self", u), ("value", v)] := by
  subst hq hff
  unfold fnB at c
  unfold ClD.obs at o
  split at c
  · rename_i oc od fd osl e
    rw [e] at o
    obtain ⟨n1, n2, n3, n4, n5, n6, n7, n8, n9, n10, n11, n12, n13, n14, n15⟩ := fd
    have o2 : (some (n1, n2, n3, n4, n5, n6, n7.map (·.1), n15) : ClV) = some (("__init__" : Str), d.qual, d.pa, FuncBody.stmts d.bo, iScope, mainGlobals, [("__class__" : Str)], builtinsNs) := o
    simp only [Option.some.injEq, Prod.mk.injEq] at o2
    obtain ⟨h1, h2, h3, h4, h5, h6, h7, h8⟩ := o2
    subst h1 h2 h3 h4 h5 h6 h8
    simp only [Bool.and_eq_true] at c
    obtain ⟨c1, c2, c3, c4⟩ := c
    split at c2
    · rename_i cda
      split at c2
      · rename_i ccl cdd vs ccs ec
        split at c2
        · rename_i v0 v1 z tf r ev2
          have hz : z = file := of_decide_eq_true c2
          subst hz
          split at c3
          · rename_i nm cc
            have hnm : nm = "__class__" := by simpa using h7
            subst hnm
            split at c3
            · rename_i cl cld C' csl eC
              have hC : C' = C := of_decide_eq_true c3
              subst hC
              split at c4
              · rename_i T
                split at c4
                · rename_i o1 o2 its nn o3 eT
                  split at c4
                  · rename_i eits
                    refine ⟨oc, od, d.qual, .ref T, n9, n10, n11, n12, cda, n14, osl, cc, d.p1, d.p2, d.p3, d.a1, d.a2, d.a3, d.a4, d.a5, d.a6, d.b1, d.b2, d.b3, d.b4, ccl, cdd, vs, ccs, z, tf, cl, cld, csl, e, c1, ec, ?_, hf, eC, ev, fun s u v X => bind_in rfl eT rfl eits s u v X⟩
                    rw [← Array.getElem?_toList, ev2]; rfl
                  · cases c4
                · cases c4
              · cases c4
            · cases c3
          · cases c3
        · cases c2
      · cases c2
    · cases c2
  · cases c
theorem ClD.txt (X : K.In h) (G : h.Ns mainGlobals mg) (ev : d.Ev) (hf : (prog.main.file == file) = true) (gS : mg "super" = none) (tS : (prog.main.scope.names.lookup ("super" : Str)).isSome = false)
    (o : d.obs K = d.val) (c : d.ok K file = true) : mg d.x = some (.ref (d.c K)) ∧ ETxt prog K mg d.x (d.c K) (d.f K) ∧ EC K (d.c K) := by
  unfold ClD.ok at c
  simp only [Bool.and_eq_true, decide_eq_true_eq] at c
  obtain ⟨c1, c2, c3, c4, c5, c6, c7, c8, c9, c10, c11, c12, c13, c14, c15, c16, c17, c18, c19, c20, c21, c22⟩ := c
  have g := W.mg_of X G c1
  exact ⟨g, ⟨g, clsB_ok c2, c4, c5, c6, c7, c8, c9, c10, c11, c12, c13, c14, c15, gS, tS, fnB_ok ev hf o rfl rfl c3⟩, ⟨c16, c17, c18, c9, c19, c20, c21, c22⟩⟩
end
/-! ### the Hook -/
def asX (g : Addr → Option Obj) : Nat → List Addr
  | 0 => [mainGlobals, cStatics]
  | n + 1 => He.growD g (asX g n)
abbrev AlX : Type := He.AlD × Bool × List ClV
def pairs (n : Nat) : List (Nat × Nat) := (List.range n).flatMap fun c => (List.range n).map fun k => (c, k)
def clAt (K : W.Frag) (cs : List ClD) (i : Nat) : Addr := match cs[i]? with
  | some d => d.c K
  | none => 0
def allB (K : W.Frag) (file : Str) (cs : List ClD) : Bool := (cs.all fun d => d.ok K file) && (pairs cs.length).all fun p => decide (W.kitOne K (.ref (clAt K cs p.1)) (.ref (clAt K cs p.2)) = some (p.1 == p.2))
def obsX (fa : List He.Fa) (fn : List He.DefD) (cs : List ClD) (file : Str) (K : W.Frag) : AlX := (He.obsD fa fn K, allB K file cs, cs.map fun d => d.obs K)
def valX (fn : List He.DefD) (cs : List ClD) : AlX := (He.valD fn, true, cs.map ClD.val)
def SaysX (fa : List He.Fa) (fn : List He.DefD) (cs : List ClD) (file : Str) (K : W.Frag) : Prop := obsX fa fn cs file K = valX fn cs
def obsXG (n : Nat) (fa : List He.Fa) (fn : List He.DefD) (cs : List ClD) (file : Str) (g : Addr → Option Obj) : AlX := obsX fa fn cs file (He.frG g (asX g n))
def hookX (n : Nat) (fa : List He.Fa) (fn : List He.DefD) (cs : List ClD) (file : Str) : W.Hook where
  α := AlX
  obs := fun s => obsXG n fa fn cs file s.heap.get?
  val := fun _ => valX fn cs
  says := fun _ h => ∃ K : W.Frag, K.In h ∧ SaysX fa fn cs file K
  of := fun _ _ e => ⟨_, He.frG_in, e⟩
  keeps := fun _ _ _ ⟨K, hK, c⟩ k => ⟨K, W.Frag.In.keeps hK k, c⟩
theorem obsXG_eq {n : Nat} {fa : List He.Fa} {fn : List He.DefD} {cs : List ClD} {file : Str} {g : Addr → Option Obj} {s : Shared} (h : ∀ a, g a = s.heap.get? a) : obsXG n fa fn cs file g = (hookX n fa fn cs file).obs s := by
  have e : g = s.heap.get? := funext h
  rw [e] <;> rfl
section
variable {fa : List He.Fa} {fn : List He.DefD} {cs : List ClD} {file : Str} {K : W.Frag}
theorem SaysX.d (c : SaysX fa fn cs file K) : He.SaysD fa fn K := congrArg (fun z : AlX => z.1) c
theorem SaysX.cl (c : SaysX fa fn cs file K) (i : Nat) {d : ClD} (h : cs[i]? = some d) : d.obs K = d.val ∧ d.ok K file = true := by
  have e : cs.map (fun d => d.obs K) = cs.map ClD.val := congrArg (fun z : AlX => z.2.2) c
  have b : allB K file cs = true := congrArg (fun z : AlX => z.2.1) c
  have e2 : (cs.map fun d => d.obs K)[i]? = (cs.map ClD.val)[i]? := by rw [e]
  rw [List.getElem?_map, List.getElem?_map, h] at e2
  exact ⟨Option.some.inj e2, List.all_eq_true.mp (He.ba b).1 d (List.mem_of_getElem? h)⟩
theorem SaysX.kit (c : SaysX fa fn cs file K) (i j : Nat) {d e : ClD} (h : cs[i]? = some d) (k : cs[j]? = some e) : W.kitOne K (.ref (d.c K)) (.ref (e.c K)) = some (i == j) := by
  have b : allB K file cs = true := congrArg (fun z : AlX => z.2.1) c
  have hi : i < cs.length := (List.getElem?_eq_some_iff.mp h).1
  have hj : j < cs.length := (List.getElem?_eq_some_iff.mp k).1
  have m : (i, j) ∈ pairs cs.length := List.mem_flatMap.mpr ⟨i, List.mem_range.mpr hi, List.mem_map.mpr ⟨j, List.mem_range.mpr hj, rfl⟩⟩
  have z := of_decide_eq_true (List.all_eq_true.mp (He.ba b).2 _ m)
  unfold clAt at z
  rw [h, k] at z
  exact z
end
end Ev
end
section
set_option linter.all false
set_option maxRecDepth 100000
set_option maxHeartbeats 4000000
/-! The head: the module's facts, the law. -/
namespace Ev
open PySem PySem.Spec PyProof.Rows L2
def faOf (fns : List Str) (nums : List (Str × Int)) (cls : List Str) (bs : Str) : List He.Fa := .free "0" :: .glo bs :: (bltN.map .free ++ (nums.map (fun p => .int p.1 p.2) ++ (fns.map .glo ++ cls.map fun x => .exm x bs true)))
theorem SaysD.mem {fa : List He.Fa} {fn : List He.DefD} {K : W.Frag} (c : He.SaysD fa fn K) {f : He.Fa} (h : f ∈ fa) : f.ok K = true := by
  obtain ⟨i, hi⟩ := List.getElem?_of_mem h
  exact c.fact i hi
/-- a def of the module's top -/
def tdef (p : Str × Stmt) : He.DefD := ⟨(p.1, none), p.1, p.1, defArgs p.2, defBody p.2, defScope p.2, [], []⟩
section
variable {prg : Program} {K : W.Frag} {h : Heap} {mg : Str → Option Value} {M : Md} {ds : List (Str × Stmt)} {nums : List (Str × Int)} {cs : List ClD} {file : Str}
theorem fn_at (X : K.In h) (G : h.Ns mainGlobals mg) (c : SaysX (faOf (ds.map (·.1)) nums (cs.map (·.x)) M.bs) (ds.map tdef) cs file K) (i : Nat) {p : Str × Stmt} (e : ds[i]? = some p) :
    ∃ a fd, FunD K p.1 p.1 (defArgs p.2) (defBody p.2) (defScope p.2) [] [] a fd ∧ mg p.1 = some (.ref a) := by
  obtain ⟨fd, F⟩ := c.d.def_ i (d := tdef p) (by rw [List.getElem?_map, e]; rfl)
  refine ⟨He.ga K p.1, fd, F, He.glo_ok X G (SaysD.mem c.d (f := .glo p.1) ?_)⟩
  have m : p.1 ∈ ds.map (·.1) := List.mem_map.mpr ⟨p, List.mem_of_getElem? e, rfl⟩
  exact List.mem_cons_of_mem _ (List.mem_cons_of_mem _ (List.mem_append_right _ (List.mem_append_right _ (List.mem_append_left _ (List.mem_map.mpr ⟨p.1, m, rfl⟩)))))
theorem mf_of (X : K.In h) (G : h.Ns mainGlobals mg) (c : SaysX (faOf (ds.map (·.1)) nums (cs.map (·.x)) M.bs) (ds.map tdef) cs file K)
    (ev : ∀ d ∈ cs, d.Ev) (hf : (prg.main.file == file) = true) (tS : (prg.main.scope.names.lookup ("super" : Str)).isSome = false)
    (hnc : M.nc = cs.length) (one : ∀ f fd, M.T f = some fd → fd.mp.length ≤ 1) (kk : M.nm.K = K)
    (hN : ∀ i, M.nm.cls i = match cs[i]? with | some d => d.x | none => "0") (hF : ∀ i, M.nm.fn i = match ds[i]? with | some p => p.1 | none => "0")
    (hI : ∀ x i, M.it x = some i → (M.nm.int x, i) ∈ nums) : MF prg K mg M := by
  have fr : ∀ x ∈ bltN, mg x = none := fun x hx => He.free_ok X G (SaysD.mem c.d (f := .free x) (List.mem_cons_of_mem _ (List.mem_cons_of_mem _ (List.mem_append_left _ (List.mem_map.mpr ⟨x, hx, rfl⟩)))))
  have f0 : mg "0" = none := He.free_ok X G (SaysD.mem c.d (f := .free "0") (List.mem_cons_self ..))
  have gS : mg "super" = none := fr "super" (by simp [bltN])
  have cl : ∀ i C, mg (M.nm.cls i) = some (.ref C) → ∃ d, cs[i]? = some d ∧ M.nm.cls i = d.x ∧ C = d.c K ∧ ETxt prg K mg d.x (d.c K) (d.f K) ∧ EC K (d.c K) := fun i C hC => by
    rw [hN] at hC ⊢
    cases q : cs[i]? with
    | none => rw [q] at hC; dsimp only at hC; rw [f0] at hC; cases hC
    | some d =>
      rw [q] at hC
      dsimp only at hC
      obtain ⟨o, k⟩ := c.cl i q
      obtain ⟨g, T, E⟩ := ClD.txt X G (ev d (List.mem_of_getElem? q)) hf gS tS o k
      rw [g] at hC
      cases hC
      exact ⟨d, rfl, rfl, rfl, T, E⟩
  refine ⟨one, fr, fun x i hi => He.int_ok X G (SaysD.mem c.d (f := .int (M.nm.int x) i) (List.mem_cons_of_mem _ (List.mem_cons_of_mem _ (List.mem_append_right _ (List.mem_append_left _ (List.mem_map.mpr ⟨_, hI x i hi, rfl⟩)))))), ?_, ?_, ?_, ?_, ?_, kk⟩
  · intro k hk
    rw [hnc] at hk
    obtain ⟨d, e⟩ : ∃ d, cs[k]? = some d := ⟨_, List.getElem?_eq_getElem hk⟩
    obtain ⟨o, b⟩ := c.cl k e
    obtain ⟨g, _, _⟩ := ClD.txt X G (ev _ (List.mem_of_getElem? e)) hf gS tS o b
    have z := hN k
    rw [e] at z
    exact ⟨_, (congrArg mg z).trans g⟩
  · intro f a ha
    rw [hF] at ha
    cases q : ds[f]? with
    | none => rw [q] at ha; dsimp only at ha; rw [f0] at ha; cases ha
    | some p =>
      rw [q] at ha
      obtain ⟨a', fd, F, g⟩ := fn_at (M := M) X G c f q
      dsimp only at ha
      rw [g] at ha
      cases ha
      exact F.kp
  · refine ⟨_, He.glo_ok X G (SaysD.mem c.d (f := .glo M.bs) (List.mem_cons_of_mem _ (List.mem_cons_self ..))), fun k C hC => ?_⟩
    obtain ⟨d, q, _, rfl, _, _⟩ := cl k C hC
    have m : d.x ∈ cs.map (·.x) := List.mem_map.mpr ⟨d, List.mem_of_getElem? q, rfl⟩
    exact He.exm_ok (SaysD.mem c.d (f := .exm d.x M.bs true) (List.mem_cons_of_mem _ (List.mem_cons_of_mem _ (List.mem_append_right _ (List.mem_append_right _ (List.mem_append_right _ (List.mem_map.mpr ⟨d.x, m, rfl⟩)))))))
  · intro k C hC
    obtain ⟨d, q, e, rfl, T, E⟩ := cl k C hC
    exact ⟨_, e ▸ T⟩
  · intro i k C C' hC hC'
    obtain ⟨d, q, e, rfl, T, E⟩ := cl i C hC
    obtain ⟨d', q', e', rfl, T', E'⟩ := cl k C' hC'
    exact ⟨E, c.kit i k q q'⟩
end
/-- the law's def: what it promises, over any base -/
theorem law_fn {prg : Program} {wo : World} {K : PySem.W.Frag} {mg : Str → Option Value} {M : Md} (F : MF prg K mg M) (defs : ∀ f fd, M.T f = some fd → DefOk prg wo K mg M f fd) {n f : Nat} {fd : FnDef} (hT : M.T f = some fd) :
    ∃ a fo, mg (M.nm.fn f) = some (.ref a) ∧ (∀ base : Heap, FnG prg wo K mg base (n + 1) a fo (M.pn f) (spEv mg M.nm M.T (n + 1) f)) ∧ (M.pn f).length = fd.ps ∧ (∀ us : List Value, us.length = (M.pn f).length → bindArgs fo ⟨us, []⟩ = pure ((M.pn f).zip us)) := by
  obtain ⟨a, name, qual, params, body, scope, dV, kV, doc, pm, cdv, ct, oc, an, od, osl, N, h1, h2, h3, h4, h5, h6, h7, h8, h9⟩ := defs f fd hT
  refine ⟨a, _, h1, fun base => ?_, h6, h7⟩
  have ih := all_ok F defs base n
  refine fnG_of h2 h3 h5 (fun xs H0 Q0 E0 q => (spEv_len hT q).trans h6.symm) fun A0 out s0 H0 xs Q0 E0 gd room q => ?_
  refine ⟨_, h9 base n A0 out s0 H0 E0 ?_, body_ok hT (F.one f fd hT) q⟩
  obtain ⟨cv, b1, b2⟩ := F.base
  exact ⟨⟨rfl, rfl, F.one, h5.nd, rfl, room, gd, takes_of rfl rfl rfl rfl, ih, F.tot, F.apart, F.kk⟩, rfl, F.blt, F.nums, F.clsx, ⟨cv, b1, ⟨F.exs, b2, F.apart⟩⟩⟩
theorem law_sp {mg : Str → Option Value} {nm : Nm} {T : Tab} {n f : Nat} {fd : FnDef} {a : Addr} {H : Hp} {ns : List Int} {fin : List O} (hT : T f = some fd) (hps : fd.ps = 1) (hs : SqL nm.K H a (ns.map V.int)) (e : callN T n f [.im (.scr ns)] = .ret (.im (.bl true)) fin) :
    spEv mg nm T n f [.ref a] H (fun v _ => v = .bl true) fun _ _ _ => False := by
  refine ⟨fd, H, [.im (.scr ns)], [], hT, hps.symm, Sub.refl, ⟨.ref a, [], [], [], rfl, ⟨⟨a, rfl, hs⟩, rfl⟩, ⟨rfl, rfl⟩, rfl⟩, List.nodup_nil, fun _ h => (by cases h), ?_⟩
  rw [e]
  exact fun F' H' v S1 S2 _ o _ => o.1
/-- the law of a module, from its head's run and the plain law -/
theorem law_holds {l : W.OpenLaw} {m n f : Nat} {q : Program} {loose : List Str} {XP : (Str → Option Value) → Heap → Prop} {d : DefRec} {x : Str} {fd : FnDef} {md : W.Frag → Md} {ds : List (Str × Stmt)} {nums : List (Str × Int)} {cs : List ClD} {file bs : Str} {T : Tab} {nal : Nat}
    (hn : l.most = some m) (hn2 : m ≤ sizeLine) (hdf : d.params.defaults = []) (hr : Room (n + 1) callerA)
    (hbs : ∀ K, (md K).bs = bs) (hMT : ∀ K, (md K).T = T) (hpn : ∀ K, (md K).pn f = [x]) (hname : ∀ K, (md K).nm.fn f = d.name) (hT : T f = some fd) (hps : fd.ps = 1)
    (ev : ∀ d ∈ cs, d.Ev) (hf : (l.prog.main.file == file) = true) (tS : (l.prog.main.scope.names.lookup ("super" : Str)).isSome = false)
    (hnc : ∀ K, (md K).nc = cs.length) (one : ∀ f fd, T f = some fd → fd.mp.length ≤ 1) (kk : ∀ K, (md K).nm.K = K)
    (hN : ∀ K i, (md K).nm.cls i = match cs[i]? with | some d => d.x | none => "0") (hF : ∀ K i, (md K).nm.fn i = match ds[i]? with | some p => p.1 | none => "0")
    (hI : ∀ K x i, (md K).it x = some i → ((md K).nm.int x, i) ∈ nums)
    (defs : ∀ (wo : World) (K : W.Frag) (mg : Str → Option Value), (∀ (i : Nat) (p : Str × Stmt), ds[i]? = some p → ∃ a fd, FunD K p.1 p.1 (defArgs p.2) (defBody p.2) (defScope p.2) [] [] a fd ∧ mg p.1 = some (.ref a)) → ∀ f fd, T f = some fd → DefOk l.prog wo K mg (md K) f fd)
    (plain : ∀ ns : List Int, ns.length ≤ m → ∃ fin, callN T (n + 1) f [.im (.scr ns)] = .ret (.im (.bl true)) fin) :
    W.WalkO q loose XP (hookX nal (faOf (ds.map (·.1)) nums (cs.map (·.x)) bs) (ds.map tdef) cs file).says l.row.toRowW d [] (fun f vs => PySem.call f vs) := by
  refine law_end (x := x) hn hn2 hdf hr fun wo mg fa h Y G hmg => ?_
  obtain ⟨K, KX, c⟩ := Y
  rw [← hbs K] at c
  have MFx := mf_of (prg := l.prog) KX G c ev hf tS (hnc K) (by rw [hMT]; exact one) (kk K) (hN K) (hF K) (hI K)
  have defsx := defs wo K mg (fun i p e => fn_at KX G c i e)
  obtain ⟨a, fo, g, R, hl, hb⟩ := law_fn (wo := wo) MFx (by rw [hMT]; exact defsx) (n := n) (f := f) (fd := fd) (by rw [hMT]; exact hT)
  rw [hname, hmg] at g
  cases g
  rw [hpn] at hb R
  refine ⟨K, fo, _, KX, fun s u => ?_, fun H a ns hns _ hS => ?_, fun base _ _ => R base⟩
  · exact BindsTo.of_eq (hb [u] rfl)
  · obtain ⟨fin, e⟩ := plain ns hns
    have hS' : SqL (md K).nm.K H a (ns.map V.int) := by rw [kk]; exact hS
    rw [hMT]
    exact law_sp hT hps hS' e
end Ev
end
section
set_option autoImplicit false
set_option linter.all false
/-! Webs: going along ties, joined places, distances. Plain, no program in sight. -/
namespace Gr
abbrev Ties := List (Nat × Nat)
def adj (ts : Ties) (u v : Nat) : Prop := (u, v) ∈ ts ∨ (v, u) ∈ ts
instance (ts : Ties) (u v : Nat) : Decidable (adj ts u v) := inferInstanceAs (Decidable (_ ∨ _))
theorem adj_symm {ts : Ties} {u v : Nat} (h : adj ts u v) : adj ts v u := h.symm
def wk (ts : Ties) : Nat → Nat → Nat → Prop
  | 0, u, v => u = v
  | k + 1, u, v => ∃ w, wk ts k u w ∧ adj ts w v
def conn (ts : Ties) (u v : Nat) : Prop := ∃ k, wk ts k u v

theorem wk_trans {ts : Ties} : ∀ {j k : Nat} {u v w : Nat}, wk ts j u v → wk ts k v w → wk ts (j + k) u w
  | _, 0, _, _, _, h, rfl => h
  | _, _ + 1, _, _, _, h, ⟨x, h1, h2⟩ => ⟨x, wk_trans h h1, h2⟩
theorem wk_one {ts : Ties} {u v : Nat} (h : adj ts u v) : wk ts 1 u v := ⟨u, rfl, h⟩
theorem wk_symm {ts : Ties} : ∀ {k : Nat} {u v : Nat}, wk ts k u v → wk ts k v u
  | 0, _, _, h => Eq.symm h
  | k + 1, u, v, ⟨x, h1, h2⟩ => by
    have h := wk_trans (wk_one (adj_symm h2)) (wk_symm h1)
    rwa [Nat.add_comm] at h
theorem wk_mono {ts us : Ties} (hs : ∀ u v, adj ts u v → adj us u v) : ∀ {k : Nat} {u v : Nat}, wk ts k u v → wk us k u v
  | 0, _, _, h => h
  | _ + 1, _, _, ⟨x, h1, h2⟩ => ⟨x, wk_mono hs h1, hs _ _ h2⟩
theorem conn_refl (ts : Ties) (u : Nat) : conn ts u u := ⟨0, rfl⟩
theorem conn_symm {ts : Ties} {u v : Nat} : conn ts u v → conn ts v u := fun ⟨k, h⟩ => ⟨k, wk_symm h⟩
theorem conn_trans {ts : Ties} {u v w : Nat} : conn ts u v → conn ts v w → conn ts u w := fun ⟨_, h⟩ ⟨_, h'⟩ => ⟨_, wk_trans h h'⟩
theorem conn_adj {ts : Ties} {u v : Nat} (h : adj ts u v) : conn ts u v := ⟨1, wk_one h⟩
theorem conn_mono {ts us : Ties} (hs : ∀ u v, adj ts u v → adj us u v) {u v : Nat} : conn ts u v → conn us u v := fun ⟨k, h⟩ => ⟨k, wk_mono hs h⟩
/-- any relation that is an equivalence and holds of ties holds of joined places -/
theorem conn_least {ts : Ties} {R : Nat → Nat → Prop} (hr : ∀ u, R u u) (ht : ∀ u v w, R u v → R v w → R u w) (ha : ∀ u v, adj ts u v → R u v) {u v : Nat} : conn ts u v → R u v := by
  rintro ⟨k, h⟩
  induction k generalizing v with
  | zero => cases h; exact hr _
  | succ k ih =>
    obtain ⟨w, h1, h2⟩ := h
    exact ht _ _ _ (ih h1) (ha _ _ h2)
theorem conn_nil {u v : Nat} : conn [] u v ↔ u = v := by
  constructor
  · exact conn_least (R := fun u v => u = v) (fun _ => rfl) (fun _ _ _ a b => a.trans b) (fun u v h => by simp [adj] at h)
  · rintro rfl; exact conn_refl _ _
theorem adj_append {ts us : Ties} {u v : Nat} : adj (ts ++ us) u v ↔ adj ts u v ∨ adj us u v := by simp only [adj, List.mem_append]; grind
theorem adj_single {a b u v : Nat} : adj [(a, b)] u v ↔ (u = a ∧ v = b) ∨ (u = b ∧ v = a) := by simp only [adj, List.mem_singleton, Prod.mk.injEq]; grind
/-- one tie more -/
theorem conn_more {ts : Ties} {a b u v : Nat} : conn (ts ++ [(a, b)]) u v ↔ conn ts u v ∨ (conn ts u a ∧ conn ts b v) ∨ (conn ts u b ∧ conn ts a v) := by
  constructor
  · refine conn_least (R := fun u v => conn ts u v ∨ (conn ts u a ∧ conn ts b v) ∨ (conn ts u b ∧ conn ts a v)) (fun u => .inl (conn_refl _ _)) ?_ ?_
    · intro u v w h1 h2
      rcases h1 with h1 | ⟨h1, h1'⟩ | ⟨h1, h1'⟩ <;> rcases h2 with h2 | ⟨h2, h2'⟩ | ⟨h2, h2'⟩
      · exact .inl (conn_trans h1 h2)
      · exact .inr (.inl ⟨conn_trans h1 h2, h2'⟩)
      · exact .inr (.inr ⟨conn_trans h1 h2, h2'⟩)
      · exact .inr (.inl ⟨h1, conn_trans h1' h2⟩)
      · exact .inr (.inl ⟨h1, h2'⟩)
      · exact .inl (conn_trans h1 h2')
      · exact .inr (.inr ⟨h1, conn_trans h1' h2⟩)
      · exact .inl (conn_trans h1 h2')
      · exact .inr (.inr ⟨h1, h2'⟩)
    · intro u v h
      rcases adj_append.mp h with h | h
      · exact .inl (conn_adj h)
      · rcases adj_single.mp h with ⟨rfl, rfl⟩ | ⟨rfl, rfl⟩
        · exact .inr (.inl ⟨conn_refl _ _, conn_refl _ _⟩)
        · exact .inr (.inr ⟨conn_refl _ _, conn_refl _ _⟩)
  · have hm : ∀ {u v}, conn ts u v → conn (ts ++ [(a, b)]) u v := fun h => conn_mono (fun _ _ h => adj_append.mpr (.inl h)) h
    have hab : conn (ts ++ [(a, b)]) a b := conn_adj (adj_append.mpr (.inr (adj_single.mpr (.inl ⟨rfl, rfl⟩))))
    rintro (h | ⟨h, h'⟩ | ⟨h, h'⟩)
    · exact hm h
    · exact conn_trans (hm h) (conn_trans hab (hm h'))
    · exact conn_trans (hm h) (conn_trans (conn_symm hab) (hm h'))
theorem conn_congr {ts us : Ties} (h : ∀ u v, adj ts u v ↔ adj us u v) {u v : Nat} : conn ts u v ↔ conn us u v := ⟨conn_mono fun u v => (h u v).mp, conn_mono fun u v => (h u v).mpr⟩

/-- ties between places below m -/
def In (m : Nat) (ts : Ties) : Prop := ∀ p ∈ ts, p.1 < m ∧ p.2 < m
theorem In.adj {m : Nat} {ts : Ties} (h : In m ts) {u v : Nat} (ha : adj ts u v) : u < m ∧ v < m := by
  rcases ha with ha | ha
  · exact h _ ha
  · exact (h _ ha).symm
theorem In.conn {m : Nat} {ts : Ties} (h : In m ts) {u v : Nat} (hc : conn ts u v) (hu : u < m) : v < m := by
  have := conn_least (ts := ts) (R := fun u v => u < m → v < m) (fun _ h => h) (fun _ _ _ a b h => b (a h)) (fun u v ha _ => (h.adj ha).2) hc
  exact this hu

/-! ### the least number with a property -/
theorem least {P : Nat → Prop} (h : ∃ k, P k) : ∃ k, P k ∧ ∀ j, P j → k ≤ j := by
  obtain ⟨k, hk⟩ := h
  induction k using Nat.strongRecOn with
  | ind k ih =>
    by_cases h : ∃ j, j < k ∧ P j
    · obtain ⟨j, hj, hp⟩ := h
      exact ih j hj hp
    · exact ⟨k, hk, fun j hj => Nat.le_of_not_lt fun hlt => h ⟨j, hlt, hj⟩⟩
/-! ### lists told by their members -/
theorem eq_of_mem {α : Type} {R : α → α → Prop} (ir : ∀ a, ¬ R a a) (tr : ∀ a b c, R a b → R b c → R a c) {xs ys : List α} (hx : xs.Pairwise R) (hy : ys.Pairwise R) (h : ∀ a, a ∈ xs ↔ a ∈ ys) : xs = ys := by
  have nd : ∀ {zs : List α}, zs.Pairwise R → zs.Nodup := fun hz => List.nodup_iff_pairwise_ne.mpr (hz.imp (S := fun a b => a ≠ b) (fun {a b} (hab : R a b) (e : a = b) => by subst e; exact ir _ hab))
  have nx := nd hx
  have ny := nd hy
  exact List.Perm.eq_of_pairwise (le := R) (fun a b _ _ h1 h2 => absurd (tr _ _ _ h1 h2) (ir a)) hx hy ((List.perm_ext_iff_of_nodup nx ny).mpr h)
theorem nats_eq {xs ys : List Nat} (hx : xs.Pairwise (· < ·)) (hy : ys.Pairwise (· < ·)) (h : ∀ a, a ∈ xs ↔ a ∈ ys) : xs = ys :=
  eq_of_mem (R := (· < ·)) (fun a => Nat.lt_irrefl a) (fun _ _ _ => Nat.lt_trans) hx hy h
theorem nodup_bound {m : Nat} {xs : List Nat} (hn : xs.Nodup) (h : ∀ x ∈ xs, x < m) : xs.length ≤ m := by
  have := hn.length_le_of_subset (l₂ := List.range m) (fun x hx => List.mem_range.mpr (h x hx))
  simpa using this
/-- a map of 0..k, one to one, into the places below m -/
theorem pigeon {m k : Nat} (g : Nat → Nat) (hm : ∀ i, i < k → g i < m) (hi : ∀ i j, i < k → j < k → g i = g j → i = j) : k ≤ m := by
  have h := nodup_bound (m := m) (xs := (List.range k).map g) (by
    rw [List.nodup_iff_pairwise_ne, List.pairwise_map]
    refine List.Pairwise.imp_of_mem ?_ (List.pairwise_lt_range (n := k))
    intro a b ha hb hlt e
    have := hi a b (by simpa using ha) (by simpa using hb) e
    omega) (by simpa using hm)
  simpa using h

/-! ### distances -/
structure IsDist (ts : Ties) (p : Nat) (f : Nat → Option Nat) : Prop where
  at_p : f p = some 0
  zero : ∀ v, f v = some 0 → v = p
  back : ∀ v k, f v = some (k + 1) → ∃ u, adj ts u v ∧ f u = some k
  step : ∀ u v k, adj ts u v → f u = some k → ∃ j, j ≤ k + 1 ∧ f v = some j
theorem IsDist.wk {ts : Ties} {p : Nat} {f : Nat → Option Nat} (h : IsDist ts p f) : ∀ {k v : Nat}, f v = some k → wk ts k p v
  | 0, v, e => (h.zero v e).symm
  | k + 1, v, e => by
    obtain ⟨u, ha, hu⟩ := h.back v k e
    exact ⟨u, h.wk hu, ha⟩
theorem IsDist.of_wk {ts : Ties} {p : Nat} {f : Nat → Option Nat} (h : IsDist ts p f) : ∀ {k v : Nat}, Gr.wk ts k p v → ∃ j, j ≤ k ∧ f v = some j
  | 0, v, e => by cases e; exact ⟨0, Nat.le_refl _, h.at_p⟩
  | k + 1, v, ⟨u, hw, ha⟩ => by
    obtain ⟨j, hj, e⟩ := h.of_wk hw
    obtain ⟨i, hi, e'⟩ := h.step u v j ha e
    exact ⟨i, by omega, e'⟩
open Classical in
noncomputable def dst (ts : Ties) (p v : Nat) : Option Nat := if h : ∃ k, wk ts k p v then some (least h).choose else none
theorem dst_some {ts : Ties} {p v k : Nat} : dst ts p v = some k ↔ wk ts k p v ∧ ∀ j, wk ts j p v → k ≤ j := by
  unfold dst
  by_cases h : ∃ k, wk ts k p v
  · rw [dif_pos h]
    have := (least h).choose_spec
    constructor
    · intro e; cases e; exact this
    · rintro ⟨h1, h2⟩
      congr 1
      have a := this.2 _ h1
      have b := h2 _ this.1
      omega
  · rw [dif_neg h]
    constructor
    · intro e; cases e
    · rintro ⟨h1, _⟩; exact absurd ⟨_, h1⟩ h
theorem dst_none {ts : Ties} {p v : Nat} : dst ts p v = none ↔ ¬ conn ts p v := by
  unfold dst
  by_cases h : ∃ k, wk ts k p v
  · rw [dif_pos h]; simp [conn, h]
  · rw [dif_neg h]; simp only [conn, h, not_false_eq_true]
theorem dst_isSome {ts : Ties} {p v : Nat} : (∃ k, dst ts p v = some k) ↔ conn ts p v := by
  constructor
  · rintro ⟨k, h⟩; exact ⟨k, (dst_some.mp h).1⟩
  · intro h
    cases e : dst ts p v with
    | none => exact absurd h (dst_none.mp e)
    | some k => exact ⟨k, rfl⟩
theorem IsDist.eq {ts : Ties} {p : Nat} {f : Nat → Option Nat} (h : IsDist ts p f) (v : Nat) : f v = dst ts p v := by
  cases e : f v with
  | none =>
    refine Eq.symm (dst_none.mpr ?_)
    rintro ⟨k, hk⟩
    obtain ⟨j, _, e'⟩ := h.of_wk hk
    rw [e] at e'; cases e'
  | some k =>
    refine Eq.symm (dst_some.mpr ⟨h.wk e, fun j hj => ?_⟩)
    obtain ⟨i, hi, e'⟩ := h.of_wk hj
    rw [e] at e'; cases e'; exact hi
theorem dst_isDist (ts : Ties) (p : Nat) : IsDist ts p (dst ts p) where
  at_p := dst_some.mpr ⟨rfl, fun _ _ => Nat.zero_le _⟩
  zero v h := (dst_some.mp h).1.symm
  back v k h := by
    obtain ⟨⟨u, hw, ha⟩, hl⟩ := dst_some.mp h
    refine ⟨u, ha, dst_some.mpr ⟨hw, fun j hj => ?_⟩⟩
    have := hl (j + 1) ⟨u, hj, ha⟩
    omega
  step u v k ha h := by
    obtain ⟨hw, hl⟩ := dst_some.mp h
    have hc : conn ts p v := ⟨k + 1, u, hw, ha⟩
    obtain ⟨j, hj⟩ := dst_isSome.mpr hc
    exact ⟨j, (dst_some.mp hj).2 _ ⟨u, hw, ha⟩, hj⟩
theorem dst_symm (ts : Ties) (u v : Nat) : dst ts u v = dst ts v u := by
  cases e : dst ts v u with
  | none => exact dst_none.mpr fun h => dst_none.mp e (conn_symm h)
  | some k =>
    obtain ⟨h1, h2⟩ := dst_some.mp e
    exact dst_some.mpr ⟨wk_symm h1, fun j hj => h2 j (wk_symm hj)⟩
theorem dst_tri {ts : Ties} {u v w a b : Nat} (h1 : dst ts u v = some a) (h2 : dst ts v w = some b) : ∃ c, c ≤ a + b ∧ dst ts u w = some c := by
  have hw := wk_trans (dst_some.mp h1).1 (dst_some.mp h2).1
  obtain ⟨c, hc⟩ := dst_isSome.mpr ⟨_, hw⟩
  exact ⟨c, (dst_some.mp hc).2 _ hw, hc⟩
/-- the places on a shortest way are unlike: distances stay below the number of places -/
theorem dst_lt {ts : Ties} {m p v k : Nat} (hin : In m ts) (hp : p < m) (h : dst ts p v = some k) : k < m := by
  have ex : ∀ i, i ≤ k → ∃ u, dst ts p u = some i := by
    intro i hi
    obtain ⟨d, rfl⟩ : ∃ d, k = i + d := ⟨k - i, by omega⟩
    clear hi
    induction d generalizing v with
    | zero => exact ⟨v, h⟩
    | succ d ih =>
      obtain ⟨u, _, hu⟩ := (dst_isDist ts p).back v (i + d) h
      exact ih hu
  have ch : ∀ i, ∃ u, i ≤ k → dst ts p u = some i := fun i => by
    by_cases hi : i ≤ k
    · obtain ⟨u, hu⟩ := ex i hi
      exact ⟨u, fun _ => hu⟩
    · exact ⟨0, fun h => absurd h hi⟩
  have := pigeon (m := m) (k := k + 1) (fun i => (ch i).choose) (fun i hi => by
    have := (ch i).choose_spec (by omega)
    exact hin.conn (dst_isSome.mp ⟨_, this⟩) hp) (fun i j hi hj e => by
    have a := (ch i).choose_spec (by omega)
    have b := (ch j).choose_spec (by omega)
    have e : (ch i).choose = (ch j).choose := e
    rw [e] at a
    rw [a] at b
    cases b; rfl)
  omega
end Gr
end
section
set_option autoImplicit false
set_option linter.all false
/-! Pieces: labels, parts. -/
namespace Gr
open Classical in
/-- the places below m joined with v -/
noncomputable def cls (m : Nat) (ts : Ties) (v : Nat) : List Nat := (List.range m).filter fun u => decide (conn ts v u)
open Classical in
noncomputable def pcs (m : Nat) (ts : Ties) : List (List Nat) := ((List.range m).filter fun r => decide (∀ v, conn ts r v → r ≤ v)).map (cls m ts)
noncomputable def lab (ts : Ties) (v : Nat) : Nat := (least ⟨v, conn_refl ts v⟩).choose
theorem lab_conn (ts : Ties) (v : Nat) : conn ts v (lab ts v) := (least ⟨v, conn_refl ts v⟩).choose_spec.1
theorem lab_le {ts : Ties} {u v : Nat} (h : conn ts v u) : lab ts v ≤ u := (least ⟨v, conn_refl ts v⟩).choose_spec.2 u h
theorem lab_eq {ts : Ties} {u v : Nat} : lab ts u = lab ts v ↔ conn ts u v := by
  constructor
  · intro e
    exact conn_trans (lab_conn ts u) (e ▸ conn_symm (lab_conn ts v))
  · intro h
    have a := lab_le (conn_trans h (lab_conn ts v))
    have b := lab_le (conn_trans (conn_symm h) (lab_conn ts u))
    omega
theorem lab_unique {ts : Ties} {v r : Nat} (h : conn ts v r) (hl : ∀ u, conn ts v u → r ≤ u) : lab ts v = r := by
  have a := lab_le h
  have b := hl _ (lab_conn ts v)
  omega
theorem lab_lt {ts : Ties} {m v : Nat} (h : v < m) : lab ts v < m := Nat.lt_of_le_of_lt (lab_le (conn_refl ts v)) h
theorem lab_nil (v : Nat) : lab [] v = v := lab_unique (conn_refl _ _) fun u h => by rw [conn_nil.mp h]; exact Nat.le_refl _
theorem lab_more (ts : Ties) (a b v : Nat) : lab (ts ++ [(a, b)]) v = if lab ts v = max (lab ts a) (lab ts b) then min (lab ts a) (lab ts b) else lab ts v := by
  have hA := lab_conn ts a
  have hB := lab_conn ts b
  have hV := lab_conn ts v
  apply lab_unique
  · rw [conn_more]
    by_cases e : lab ts v = max (lab ts a) (lab ts b)
    · rw [if_pos e]
      rcases Nat.le_total (lab ts a) (lab ts b) with h | h
      · rw [Nat.max_eq_right h] at e
        rw [Nat.min_eq_left h]
        exact .inr (.inr ⟨lab_eq.mp e, hA⟩)
      · rw [Nat.max_eq_left h] at e
        rw [Nat.min_eq_right h]
        exact .inr (.inl ⟨lab_eq.mp e, hB⟩)
    · rw [if_neg e]; exact .inl hV
  · intro u h
    rw [conn_more] at h
    rcases h with h | ⟨h, h'⟩ | ⟨h, h'⟩
    · have := lab_le h
      split <;> omega
    · have h1 := lab_eq.mpr h
      have h2 := lab_le h'
      split <;> omega
    · have h1 := lab_eq.mpr h
      have h2 := lab_le h'
      split <;> omega
theorem mem_cls {m : Nat} {ts : Ties} {u v : Nat} : u ∈ cls m ts v ↔ u < m ∧ conn ts v u := by simp [cls]
theorem cls_sorted (m : Nat) (ts : Ties) (v : Nat) : (cls m ts v).Pairwise (· < ·) := List.Pairwise.filter _ List.pairwise_lt_range
theorem cls_eq {m : Nat} {ts : Ties} {u v : Nat} (hu : u < m) : cls m ts u = cls m ts v ↔ conn ts u v := by
  constructor
  · intro e
    have := (mem_cls (m := m) (ts := ts) (u := u) (v := u)).mpr ⟨hu, conn_refl _ _⟩
    rw [e] at this
    exact conn_symm (mem_cls.mp this).2
  · intro h
    refine nats_eq (cls_sorted _ _ _) (cls_sorted _ _ _) fun a => ?_
    rw [mem_cls, mem_cls]
    exact ⟨fun ⟨h1, h2⟩ => ⟨h1, conn_trans (conn_symm h) h2⟩, fun ⟨h1, h2⟩ => ⟨h1, conn_trans h h2⟩⟩
theorem cls_lab {m : Nat} {ts : Ties} {r : Nat} : cls m ts r = (List.range m).filter fun v => decide (lab ts v = lab ts r) := by
  refine nats_eq (cls_sorted _ _ _) (List.Pairwise.filter _ List.pairwise_lt_range) fun a => ?_
  rw [mem_cls]
  simp only [List.mem_filter, List.mem_range, decide_eq_true_eq, lab_eq]
  exact and_congr_right fun _ => ⟨conn_symm, conn_symm⟩
theorem isLeast_iff {ts : Ties} {r : Nat} : (∀ v, conn ts r v → r ≤ v) ↔ lab ts r = r := ⟨fun h => lab_unique (conn_refl _ _) h, fun h v hv => h ▸ lab_le hv⟩
open Classical in
/-- the pieces by labels -/
theorem pcs_lab (m : Nat) (ts : Ties) : pcs m ts = ((List.range m).filter fun r => decide (r ∈ (List.range m).map (lab ts))).map fun r => (List.range m).filter fun v => decide (lab ts v = r) := by
  unfold pcs
  have hf : ((List.range m).filter fun r => decide (∀ v, conn ts r v → r ≤ v)) = ((List.range m).filter fun r => decide (r ∈ (List.range m).map (lab ts))) := by
    apply List.filter_congr
    intro r hr
    rw [decide_eq_decide]
    simp only [isLeast_iff, List.mem_map, List.mem_range]
    constructor
    · intro h; exact ⟨r, List.mem_range.mp hr, h⟩
    · rintro ⟨v, hv, rfl⟩
      exact lab_eq.mpr (conn_symm (lab_conn ts v))
  rw [hf]
  apply List.map_congr_left
  intro r hr
  simp only [List.mem_filter, List.mem_range, List.mem_map, decide_eq_true_eq] at hr
  obtain ⟨hr, v, hv, rfl⟩ := hr
  rw [cls_lab]
  have : lab ts (lab ts v) = lab ts v := lab_eq.mpr (conn_symm (lab_conn ts v))
  rw [this]
theorem mem_pcs {m : Nat} {ts : Ties} (hin : In m ts) {x : List Nat} : x ∈ pcs m ts ↔ ∃ v, v < m ∧ x = cls m ts v := by
  unfold pcs
  simp only [List.mem_map, List.mem_filter, List.mem_range, decide_eq_true_eq]
  constructor
  · rintro ⟨r, ⟨hr, _⟩, rfl⟩; exact ⟨r, hr, rfl⟩
  · rintro ⟨v, hv, rfl⟩
    refine ⟨lab ts v, ⟨lab_lt hv, fun u hu => lab_le (conn_trans (lab_conn ts v) hu)⟩, ?_⟩
    exact (cls_eq (lab_lt hv)).mpr (conn_symm (lab_conn ts v))
theorem lt_of_head {a b : Nat} {x y : List Nat} (hx : ∀ c ∈ x.head?, a = c) (hy : ∀ c ∈ y.head?, b = c) (nx : x ≠ []) (ny : y ≠ []) (h : a < b) : x < y := by
  cases x with
  | nil => exact absurd rfl nx
  | cons c x =>
    cases y with
    | nil => exact absurd rfl ny
    | cons d y =>
      rw [List.cons_lt_cons_iff]
      left
      have := hx c (by simp)
      have := hy d (by simp)
      omega
theorem cls_head {m : Nat} {ts : Ties} {r : Nat} (hr : r < m) (hl : ∀ v, conn ts r v → r ≤ v) : ∃ xs, cls m ts r = r :: xs := by
  have hm : r ∈ cls m ts r := mem_cls.mpr ⟨hr, conn_refl _ _⟩
  have hs := cls_sorted m ts r
  cases e : cls m ts r with
  | nil => rw [e] at hm; cases hm
  | cons c xs =>
    rw [e] at hs hm
    have hc : c ∈ cls m ts r := by rw [e]; exact List.mem_cons_self
    have := hl c (mem_cls.mp hc).2
    rcases List.mem_cons.mp hm with h | h
    · exact ⟨xs, by rw [h]⟩
    · have := (List.pairwise_cons.mp hs).1 r h
      omega
theorem pcs_sorted (m : Nat) (ts : Ties) : (pcs m ts).Pairwise (· < ·) := by
  unfold pcs
  rw [List.pairwise_map]
  refine List.Pairwise.imp_of_mem ?_ (List.Pairwise.filter _ (List.pairwise_lt_range (n := m)))
  intro a b ha hb hab
  simp only [List.mem_filter, List.mem_range, decide_eq_true_eq] at ha hb
  obtain ⟨xs, hx⟩ := cls_head ha.1 ha.2
  obtain ⟨ys, hy⟩ := cls_head hb.1 hb.2
  rw [hx, hy, List.cons_lt_cons_iff]
  exact .inl hab
/-! ### the law's parts -/
structure Parts (m : Nat) (ts : Ties) (P : List (List Nat)) : Prop where
  is : ∀ x ∈ P, ∃ v, v < m ∧ x = cls m ts v
  all : ∀ v, v < m → cls m ts v ∈ P
  nd : P.Nodup
theorem cls_nil {m v : Nat} (h : v < m) : cls m [] v = [v] := by
  refine nats_eq (cls_sorted _ _ _) (by simp) fun a => ?_
  rw [mem_cls, conn_nil, List.mem_singleton]
  constructor
  · rintro ⟨_, rfl⟩; rfl
  · rintro rfl; exact ⟨h, rfl⟩
theorem Parts.start (m : Nat) : Parts m [] ((List.range m).map fun v => [v]) where
  is x hx := by
    obtain ⟨v, hv, rfl⟩ := List.mem_map.mp hx
    exact ⟨v, List.mem_range.mp hv, (cls_nil (List.mem_range.mp hv)).symm⟩
  all v hv := by rw [cls_nil hv]; exact List.mem_map.mpr ⟨v, List.mem_range.mpr hv, rfl⟩
  nd := by
    rw [List.nodup_iff_pairwise_ne, List.pairwise_map]
    exact (List.pairwise_lt_range (n := m)).imp fun {a b} h e => by cases e; exact Nat.lt_irrefl _ h
theorem sorted_of_nodup {xs : List Nat} (h : xs.Nodup) : (xs.mergeSort).Pairwise (· < ·) := by
  have hs : (xs.mergeSort).Pairwise (fun a b => decide (a ≤ b) = true) := List.pairwise_mergeSort (fun a b c => by simp; omega) (fun a b => by simp; omega) xs
  have hn : (xs.mergeSort).Nodup := (List.mergeSort_perm xs _).nodup_iff.mpr h
  refine (hs.and (List.nodup_iff_pairwise_ne.mp hn)).imp fun {a b} ⟨h1, h2⟩ => ?_
  have := of_decide_eq_true h1
  omega
theorem nodup_flat {P : List (List Nat)} (h1 : ∀ x ∈ P, x.Nodup) (h2 : P.Pairwise fun x y => ∀ a, a ∈ x → a ∉ y) : P.flatten.Nodup := by
  induction P with
  | nil => simp
  | cons x P ih =>
    rw [List.flatten_cons, List.nodup_append]
    obtain ⟨h3, h4⟩ := List.pairwise_cons.mp h2
    refine ⟨h1 x List.mem_cons_self, ih (fun y hy => h1 y (List.mem_cons_of_mem _ hy)) h4, ?_⟩
    intro a ha b hb e
    subst e
    obtain ⟨y, hy, hb⟩ := List.mem_flatten.mp hb
    exact h3 y hy a ha hb
theorem Parts.apart {m : Nat} {ts : Ties} {P : List (List Nat)} (h : Parts m ts P) : P.Pairwise fun x y => ∀ a, a ∈ x → a ∉ y := by
  refine List.Pairwise.imp_of_mem ?_ (List.nodup_iff_pairwise_ne.mp h.nd)
  intro x y hx hy hne a ha hb
  obtain ⟨u, hu, rfl⟩ := h.is x hx
  obtain ⟨v, hv, rfl⟩ := h.is y hy
  exact hne ((cls_eq hu).mpr (conn_trans (mem_cls.mp ha).2 (conn_symm (mem_cls.mp hb).2)))
theorem Parts.more {m : Nat} {ts : Ties} {P near rest : List (List Nat)} {new : List Nat} {a b : Nat} (h : Parts m ts P) (hin : In m ts) (ha : a < m) (hb : b < m)
    (hnear : near = P.filter fun x => decide (a ∈ x) || decide (b ∈ x)) (hrest : rest = P.filter fun x => !decide (x ∈ near)) (hnew : new = near.flatten.mergeSort) :
    near ≠ [] ∧ Parts m (ts ++ [(a, b)]) (rest ++ [new]) := by
  have mn : ∀ x, x ∈ near ↔ x ∈ P ∧ (a ∈ x ∨ b ∈ x) := fun x => by rw [hnear]; simp
  have mr : ∀ x, x ∈ rest ↔ x ∈ P ∧ ¬ (a ∈ x ∨ b ∈ x) := fun x => by
    rw [hrest]; simp only [List.mem_filter, mn, Bool.not_eq_true', decide_eq_false_iff_not]
    exact ⟨fun ⟨h1, h2⟩ => ⟨h1, fun h3 => h2 ⟨h1, h3⟩⟩, fun ⟨h1, h2⟩ => ⟨h1, fun h3 => h2 h3.2⟩⟩
  have ca : cls m ts a ∈ near := (mn _).mpr ⟨h.all a ha, .inl (mem_cls.mpr ⟨ha, conn_refl _ _⟩)⟩
  have cb : cls m ts b ∈ near := (mn _).mpr ⟨h.all b hb, .inr (mem_cls.mpr ⟨hb, conn_refl _ _⟩)⟩
  have mx : ∀ v, v < m → (cls m ts v ∈ near ↔ conn ts v a ∨ conn ts v b) := fun v hv => by
    rw [mn]; simp only [mem_cls, ha, hb, true_and, h.all v hv]
  have fl : ∀ u, u ∈ near.flatten ↔ u < m ∧ (conn ts u a ∨ conn ts u b) := fun u => by
    rw [List.mem_flatten]
    constructor
    · rintro ⟨x, hx, hu⟩
      obtain ⟨v, hv, rfl⟩ := h.is x ((mn x).mp hx).1
      obtain ⟨hum, huv⟩ := mem_cls.mp hu
      refine ⟨hum, ?_⟩
      rcases (mx v hv).mp hx with h1 | h1
      · exact .inl (conn_trans (conn_symm huv) h1)
      · exact .inr (conn_trans (conn_symm huv) h1)
    · rintro ⟨hu, h1⟩
      exact ⟨cls m ts u, (mx u hu).mpr h1, mem_cls.mpr ⟨hu, conn_refl _ _⟩⟩
  have cab : ∀ v, v < m → (conn ts v a ∨ conn ts v b) → cls m (ts ++ [(a, b)]) v = new := fun v hv hc => by
    refine nats_eq (cls_sorted _ _ _) ?_ fun u => ?_
    · rw [hnew]
      refine sorted_of_nodup (nodup_flat (fun x hx => ?_) ?_)
      · obtain ⟨w, hw, rfl⟩ := h.is x ((mn x).mp hx).1
        exact List.nodup_iff_pairwise_ne.mpr ((cls_sorted m ts w).imp fun {a b} h => Nat.ne_of_lt h)
      · rw [hnear]; exact h.apart.filter _
    · rw [mem_cls, hnew, (List.mergeSort_perm _ _).mem_iff, fl, conn_more]
      refine and_congr_right fun _ => ?_
      constructor
      · rintro (h1 | ⟨h1, h2⟩ | ⟨h1, h2⟩)
        · exact hc.imp (conn_trans (conn_symm h1)) (conn_trans (conn_symm h1))
        · exact .inr (conn_symm h2)
        · exact .inl (conn_symm h2)
      · rintro (h1 | h1) <;> rcases hc with h2 | h2
        · exact .inl (conn_trans h2 (conn_symm h1))
        · exact .inr (.inr ⟨h2, conn_symm h1⟩)
        · exact .inr (.inl ⟨h2, conn_symm h1⟩)
        · exact .inl (conn_trans h2 (conn_symm h1))
  have same : ∀ v, v < m → ¬ (conn ts v a ∨ conn ts v b) → cls m (ts ++ [(a, b)]) v = cls m ts v := fun v hv hc => by
    refine nats_eq (cls_sorted _ _ _) (cls_sorted _ _ _) fun u => ?_
    rw [mem_cls, mem_cls, conn_more]
    refine and_congr_right fun _ => ⟨?_, .inl⟩
    rintro (h1 | ⟨h1, h2⟩ | ⟨h1, h2⟩)
    · exact h1
    · exact absurd (.inl h1) hc
    · exact absurd (.inr h1) hc
  refine ⟨fun e => absurd ca (by rw [e]; exact List.not_mem_nil), ?_, ?_, ?_⟩
  · intro x hx
    rcases List.mem_append.mp hx with hx | hx
    · obtain ⟨hp, hn⟩ := (mr x).mp hx
      obtain ⟨v, hv, rfl⟩ := h.is x hp
      refine ⟨v, hv, (same v hv fun hc => hn ?_).symm⟩
      exact ((mn _).mp ((mx v hv).mpr hc)).2
    · rw [List.mem_singleton.mp hx]
      exact ⟨a, ha, (cab a ha (.inl (conn_refl _ _))).symm⟩
  · intro v hv
    rw [List.mem_append]
    by_cases hc : conn ts v a ∨ conn ts v b
    · rw [cab v hv hc]; exact .inr (List.mem_singleton.mpr rfl)
    · rw [same v hv hc]
      refine .inl ((mr _).mpr ⟨h.all v hv, fun hn => hc ?_⟩)
      exact (mx v hv).mp ((mn _).mpr ⟨h.all v hv, hn⟩)
  · rw [List.nodup_append]
    refine ⟨?_, by simp, ?_⟩
    · rw [hrest]; exact List.nodup_iff_pairwise_ne.mpr ((List.nodup_iff_pairwise_ne.mp h.nd).filter _)
    · intro x hx y hy e
      rw [List.mem_singleton.mp hy] at e
      subst e
      obtain ⟨hp, hn⟩ := (mr x).mp hx
      refine hn (.inl ?_)
      rw [← cab a ha (.inl (conn_refl _ _))]
      exact mem_cls.mpr ⟨ha, conn_refl _ _⟩
theorem Parts.len {m : Nat} {ts : Ties} {P : List (List Nat)} (h : Parts m ts P) : P.length ≤ m := by
  have := h.nd.length_le_of_subset (l₂ := (List.range m).map (cls m ts)) (fun x hx => by
    obtain ⟨v, hv, rfl⟩ := h.is x hx
    exact List.mem_map.mpr ⟨v, List.mem_range.mpr hv, rfl⟩)
  simpa using this
theorem Parts.flat_len {m : Nat} {ts : Ties} {P : List (List Nat)} (h : Parts m ts P) (p : List Nat → Bool) : (P.filter p).flatten.length ≤ m := by
  refine nodup_bound (nodup_flat (fun x hx => ?_) (h.apart.filter _)) (fun x hx => ?_)
  · obtain ⟨w, hw, rfl⟩ := h.is x (List.mem_filter.mp hx).1
    exact List.nodup_iff_pairwise_ne.mpr ((cls_sorted m ts w).imp fun {a b} h => Nat.ne_of_lt h)
  · obtain ⟨y, hy, hx⟩ := List.mem_flatten.mp hx
    obtain ⟨w, hw, rfl⟩ := h.is y (List.mem_filter.mp hy).1
    exact (mem_cls.mp hx).1
/-- parts in order are the pieces -/
theorem Parts.sorted {m : Nat} {ts : Ties} {P Q : List (List Nat)} (hin : In m ts) (h : Parts m ts P) (hp : Q.Perm P) (hs : Q.Pairwise fun x y => ¬ y < x) : Q = pcs m ts := by
  have nq : Q.Nodup := hp.nodup_iff.mpr h.nd
  have sq : Q.Pairwise (· < ·) := (hs.and (List.nodup_iff_pairwise_ne.mp nq)).imp fun {x y} ⟨h1, h2⟩ => by
    rcases List.le_iff_lt_or_eq.mp (show x ≤ y from h1) with h | h
    · exact h
    · exact absurd h h2
  refine eq_of_mem (R := (· < ·)) (fun a => List.lt_irrefl a) (fun _ _ _ => List.lt_trans) sq (pcs_sorted m ts) fun x => ?_
  rw [hp.mem_iff, mem_pcs hin]
  exact ⟨h.is x, fun ⟨v, hv, e⟩ => e ▸ h.all v hv⟩
theorem pcs_one {m : Nat} {ts : Ties} (hin : In m ts) (hm : 0 < m) : (pcs m ts).length = 1 ↔ ∀ u v, u < m → v < m → conn ts u v := by
  constructor
  · intro h u v hu hv
    have hu' := (mem_pcs hin).mpr ⟨u, hu, rfl⟩
    have hv' := (mem_pcs hin).mpr ⟨v, hv, rfl⟩
    obtain ⟨x, e⟩ := List.length_eq_one_iff.mp h
    rw [e, List.mem_singleton] at hu' hv'
    exact (cls_eq hu).mp (hu'.trans hv'.symm)
  · intro h
    have : pcs m ts = [cls m ts 0] := by
      refine eq_of_mem (R := (· < ·)) (fun a => List.lt_irrefl a) (fun _ _ _ => List.lt_trans) (pcs_sorted m ts) (by simp) fun x => ?_
      rw [mem_pcs hin, List.mem_singleton]
      constructor
      · rintro ⟨v, hv, rfl⟩; exact (cls_eq hv).mpr (h v 0 hv hm)
      · rintro rfl; exact ⟨0, hm, rfl⟩
    rw [this]; rfl
theorem pcs_pos {m : Nat} {ts : Ties} (hin : In m ts) (hm : 0 < m) : 0 < (pcs m ts).length := by
  have := (mem_pcs hin).mpr ⟨0, hm, rfl⟩
  exact List.length_pos_of_mem this
end Gr
end
section
set_option autoImplicit false
set_option linter.all false
/-! Going out step by step, by a queue; shortest ways. -/
namespace Gr
def upd (f : Nat → Option Nat) (v k : Nat) : Nat → Option Nat := fun u => if u = v then some k else f u
/-- between two turns of the queue -/
structure QI (ts : Ties) (p : Nat) (f : Nat → Option Nat) (q : List Nat) : Prop where
  at_p : f p = some 0
  zero : ∀ v, f v = some 0 → v = p
  back : ∀ v k, f v = some (k + 1) → ∃ u, adj ts u v ∧ f u = some k
  closed : ∀ u v k, adj ts u v → f u = some k → u ∉ q → ∃ j, j ≤ k + 1 ∧ f v = some j
  has : ∀ w ∈ q, ∃ k, f w = some k
  sorted : q.Pairwise fun x y => ∀ a b, f x = some a → f y = some b → a ≤ b
  top : ∀ w ∈ q, ∀ v a b, f w = some a → f v = some b → b ≤ a + 1
/-- while the ties of a place are gone through; done: arcs that are done -/
structure QJ (ts : Ties) (p now d : Nat) (f : Nat → Option Nat) (q : List Nat) : Prop where
  at_p : f p = some 0
  zero : ∀ v, f v = some 0 → v = p
  back : ∀ v k, f v = some (k + 1) → ∃ u, adj ts u v ∧ f u = some k
  at_now : f now = some d
  closed : ∀ u v k, adj ts u v → f u = some k → u ∉ q → u ≠ now → ∃ j, j ≤ k + 1 ∧ f v = some j
  has : ∀ w ∈ q, ∃ k, f w = some k
  sorted : q.Pairwise fun x y => ∀ a b, f x = some a → f y = some b → a ≤ b
  low : ∀ w ∈ q, ∀ a, f w = some a → d ≤ a
  top : ∀ v b, f v = some b → b ≤ d + 1
theorem QI.start (ts : Ties) (p : Nat) : QI ts p (upd (fun _ => none) p 0) [p] := by
  constructor
  · simp [upd]
  · intro v h; simp only [upd] at h; split at h
    · assumption
    · cases h
  · intro v k h; simp only [upd] at h; split at h <;> cases h
  · intro u v k ha h hn
    simp only [upd] at h; split at h
    · rename_i e; simp [e] at hn
    · cases h
  · intro w hw; rw [List.mem_singleton.mp hw]; exact ⟨0, by simp [upd]⟩
  · simp
  · intro w hw v a b h1 h2
    simp only [upd] at h2
    split at h2
    · cases h2; omega
    · cases h2
theorem QI.isDist {ts : Ties} {p : Nat} {f : Nat → Option Nat} (h : QI ts p f []) : IsDist ts p f where
  at_p := h.at_p
  zero := h.zero
  back := h.back
  step u v k ha hf := h.closed u v k ha hf (by simp)
theorem QI.next {ts : Ties} {p now : Nat} {f : Nat → Option Nat} {q : List Nat} (h : QI ts p f (now :: q)) : ∃ d, QJ ts p now d f q := by
  obtain ⟨d, hd⟩ := h.has now List.mem_cons_self
  have hs := List.pairwise_cons.mp h.sorted
  exact ⟨d, h.at_p, h.zero, h.back, hd, fun u v k ha hf hq hn => h.closed u v k ha hf (by simp [hq, hn]), fun w hw => h.has w (List.mem_cons_of_mem _ hw), hs.2,
    fun w hw a ha => hs.1 w hw d a hd ha, fun v b hb => h.top now List.mem_cons_self v d b hd hb⟩
theorem QJ.done {ts : Ties} {p now d : Nat} {f : Nat → Option Nat} {q : List Nat} (h : QJ ts p now d f q) (hall : ∀ v, adj ts now v → f v ≠ none) : QI ts p f q where
  at_p := h.at_p
  zero := h.zero
  back := h.back
  closed u v k ha hf hq := by
    by_cases e : u = now
    · subst e
      rw [h.at_now] at hf; cases hf
      cases hv : f v with
      | none => exact absurd hv (hall v ha)
      | some j => exact ⟨j, h.top v j hv, rfl⟩
    · exact h.closed u v k ha hf hq e
  has := h.has
  sorted := h.sorted
  top w hw v a b hwa hvb := by
    have := h.low w hw a hwa
    have := h.top v b hvb
    omega
theorem QJ.put {ts : Ties} {p now d far : Nat} {f : Nat → Option Nat} {q : List Nat} (h : QJ ts p now d f q) (hn : f far = none) (ha : adj ts now far) : QJ ts p now d (upd f far (d + 1)) (q ++ [far]) := by
  have old : ∀ v k, f v = some k → upd f far (d + 1) v = some k := fun v k e => by
    have : v ≠ far := fun e' => by rw [e', hn] at e; cases e
    simp [upd, this, e]
  have new : ∀ v k, upd f far (d + 1) v = some k → (v = far ∧ k = d + 1) ∨ (v ≠ far ∧ f v = some k) := fun v k e => by
    simp only [upd] at e
    split at e
    · cases e; exact .inl ⟨by assumption, rfl⟩
    · exact .inr ⟨by assumption, e⟩
  constructor
  · exact old _ _ h.at_p
  · intro v hv
    rcases new v 0 hv with ⟨_, h2⟩ | ⟨_, h2⟩
    · omega
    · exact h.zero v h2
  · intro v k hv
    rcases new v _ hv with ⟨rfl, h2⟩ | ⟨_, h2⟩
    · exact ⟨now, ha, by rw [old _ _ h.at_now]; congr 1; omega⟩
    · obtain ⟨u, hu, e⟩ := h.back v k h2
      exact ⟨u, hu, old _ _ e⟩
  · exact old _ _ h.at_now
  · intro u v k hau hu hq hne
    rcases new u k hu with ⟨rfl, _⟩ | ⟨_, h2⟩
    · exact absurd (List.mem_append_right _ (List.mem_singleton.mpr rfl)) hq
    · obtain ⟨j, hj, e⟩ := h.closed u v k hau h2 (fun hm => hq (List.mem_append_left _ hm)) hne
      exact ⟨j, hj, old _ _ e⟩
  · intro w hw
    rcases List.mem_append.mp hw with hw | hw
    · obtain ⟨k, e⟩ := h.has w hw; exact ⟨k, old _ _ e⟩
    · rw [List.mem_singleton.mp hw]; exact ⟨d + 1, by simp [upd]⟩
  · rw [List.pairwise_append]
    refine ⟨?_, by simp, ?_⟩
    · refine List.Pairwise.imp_of_mem ?_ h.sorted
      intro x y hx hy hxy a b hxa hyb
      obtain ⟨k, e⟩ := h.has x hx
      obtain ⟨l, e'⟩ := h.has y hy
      rw [old _ _ e] at hxa; rw [old _ _ e'] at hyb
      cases hxa; cases hyb
      exact hxy _ _ e e'
    · intro x hx y hy a b hxa hyb
      rw [List.mem_singleton.mp hy] at hyb
      simp [upd] at hyb
      obtain ⟨k, e⟩ := h.has x hx
      rw [old _ _ e] at hxa; cases hxa
      have := h.top x _ e
      omega
  · intro w hw a hwa
    rcases List.mem_append.mp hw with hw | hw
    · obtain ⟨k, e⟩ := h.has w hw
      rw [old _ _ e] at hwa; cases hwa
      exact h.low w hw _ e
    · rw [List.mem_singleton.mp hw] at hwa
      simp [upd] at hwa; omega
  · intro v b hv
    rcases new v b hv with ⟨_, h2⟩ | ⟨_, h2⟩
    · omega
    · exact h.top v b h2
/-- how many places below m are not found -/
def left (m : Nat) (f : Nat → Option Nat) : Nat := ((List.range m).filter fun v => (f v).isNone).length
theorem left_upd {m far k : Nat} {f : Nat → Option Nat} (hm : far < m) (hn : f far = none) : left m (upd f far k) + 1 = left m f := by
  unfold left
  induction m with
  | zero => omega
  | succ m ih =>
    rw [List.range_succ, List.filter_append, List.filter_append, List.length_append, List.length_append]
    by_cases e : far = m
    · subst e
      have : (List.range far).filter (fun v => (upd f far k v).isNone) = (List.range far).filter fun v => (f v).isNone := by
        apply List.filter_congr
        intro x hx
        have : x ≠ far := by have := List.mem_range.mp hx; omega
        simp [upd, this]
      rw [this]; simp [upd, hn]
    · have := ih (by omega)
      have e2 : upd f far k m = f m := by simp [upd, Ne.symm e]
      simp only [List.filter_cons, List.filter_nil, e2]
      split <;> simp <;> omega
theorem left_le (m : Nat) (f : Nat → Option Nat) : left m f ≤ m := by
  have := List.length_filter_le (fun v => (f v).isNone) (List.range m)
  simpa [left] using this
/-! ### ways -/
/-- the next place of a way towards where f is 0 -/
def nxt (ts : Ties) (f : Nat → Option Nat) (k v : Nat) : Nat := ((((ts.filter fun t => decide (v = t.1 ∨ v = t.2)).map fun t => t.1 + t.2 - v).filter fun u => decide (f u = some k)).min?).getD 0
def way (ts : Ties) (f : Nat → Option Nat) : Nat → Nat → List Nat
  | 0, v => [v]
  | k + 1, v => v :: way ts f k (nxt ts f k v)
theorem way_len (ts : Ties) (f : Nat → Option Nat) : ∀ k v, (way ts f k v).length = k + 1
  | 0, _ => rfl
  | k + 1, v => by simp [way, way_len ts f k]
/-- the places next to a place -/
def nbr (ts : Ties) (v : Nat) : List Nat := (ts.filter fun t => decide (v = t.1 ∨ v = t.2)).map fun t => t.1 + t.2 - v
theorem mem_nbr {ts : Ties} {u v : Nat} : u ∈ nbr ts v ↔ adj ts v u := by
  unfold nbr adj
  simp only [List.mem_map, List.mem_filter, decide_eq_true_eq]
  constructor
  · rintro ⟨⟨a, b⟩, ⟨hm, h⟩, rfl⟩
    rcases h with rfl | rfl
    · left; simpa [Nat.add_sub_cancel_left] using hm
    · right; simpa using hm
  · rintro (h | h)
    · exact ⟨_, ⟨h, .inl rfl⟩, by simp⟩
    · exact ⟨_, ⟨h, .inr rfl⟩, by simp⟩
theorem nxt_mem {ts : Ties} {p v k : Nat} {f : Nat → Option Nat} (h : IsDist ts p f) (hv : f v = some (k + 1)) :
    ((nbr ts v).filter fun u => decide (f u = some k)).min? = some (nxt ts f k v) ∧ adj ts v (nxt ts f k v) ∧ f (nxt ts f k v) = some k := by
  obtain ⟨u, ha, hu⟩ := h.back v k hv
  have hm : u ∈ (nbr ts v).filter fun u => decide (f u = some k) := by
    rw [List.mem_filter, mem_nbr]; exact ⟨adj_symm ha, by simp [hu]⟩
  have hne : ((nbr ts v).filter fun u => decide (f u = some k)) ≠ [] := List.ne_nil_of_mem hm
  have e : ((nbr ts v).filter fun u => decide (f u = some k)).min? = some (nxt ts f k v) := by
    unfold nxt
    change _ = some ((((nbr ts v).filter fun u => decide (f u = some k)).min?).getD 0)
    cases e : ((nbr ts v).filter fun u => decide (f u = some k)).min? with
    | none => exact absurd (List.min?_eq_none_iff.mp e) hne
    | some x => rfl
  have hx := List.min?_mem e
  rw [List.mem_filter, mem_nbr, decide_eq_true_eq] at hx
  exact ⟨e, hx.1, hx.2⟩
end Gr
end
section
set_option linter.all false
set_option maxRecDepth 100000
set_option maxHeartbeats 4000000
/-! The evaluator, stepped by simp. -/
namespace Ev
open PySem
section eqs
variable {cl : Nat → List O → COut} {sg : Nat → List Nat} {mp : List Nat} {ε : Env}
@[simp] theorem bind_ok {α β : Type} (a : α) (ε : Env) (f : α → Env → Res β) : Res.bind (.ok a ε) f = f a ε := id rfl
@[simp] theorem bind_exc {α β : Type} (c : Nat) (v : D) (ε : Env) (f : α → Env → Res β) : Res.bind (.exc c v ε) f = .exc c v ε := id rfl
@[simp] theorem bind_bad {α β : Type} (f : α → Env → Res β) : Res.bind .bad f = .bad := id rfl
theorem up_apply (ε : Env) (i : Nat) (o : O) (j : Nat) : up ε i o j = if j = i then some o else ε j := rfl
@[simp] theorem up_same (ε : Env) (i : Nat) (o : O) : up ε i o i = some o := by simp [up]
@[simp] theorem up_ne (ε : Env) (i j : Nat) (o : O) (h : j ≠ i) : up ε i o j = ε j := by simp [up, h]
@[simp] theorem evE_cst (c) : evE cl sg (.cst c) ε = .ok (.im c.d) ε := by rw [evE]
@[simp] theorem evE_var (i) : evE cl sg (.var i) ε = take ε i := by rw [evE]
@[simp] theorem evE_gl (g) : evE cl sg (.gl g) ε = .ok (.im g.d) ε := by rw [evE]
@[simp] theorem evE_tup (es) : evE cl sg (.tup es) ε = (evEs cl sg es ε).bind fun os ε1 => .ok (mk (fun ds => .im (.tup ds)) .tup os) ε1 := by rw [evE]
@[simp] theorem evE_lst (es) : evE cl sg (.lst es) ε = (evEs cl sg es ε).bind fun os ε1 => .ok (mk .ls .lst os) ε1 := by rw [evE]
def runP (p : Prim) (r : Option (List D × Env)) : Res O := match r with
    | some (ds, ε2) => match prim p ds with
      | some o => .ok o ε2
      | none => .bad
    | none => .bad
def okO (r : Option O) (ε : Env) : Res O := match r with
  | some o => .ok o ε
  | none => .bad
@[simp] theorem okO_some (o : O) (ε : Env) : okO (some o) ε = .ok o ε := id rfl
@[simp] theorem runP_some (p : Prim) (ds : List D) (ε : Env) : runP p (some (ds, ε)) = okO (prim p ds) ε := by
  simp only [runP, okO]
@[simp] theorem evE_pr (p es) : evE cl sg (.pr p es) ε = (evHs cl sg es ε).bind fun hs ε1 => runP p (rds ε1 hs) := by rw [evE] <;> rfl
theorem evE_mth (p a es) : evE cl sg (.mth p a es) ε = (evH cl sg a ε).bind fun ha ε1 => if hList ε1 ha then (evHs cl sg es ε1).bind fun hs ε2 => runP p (rds ε2 (ha :: hs)) else .bad := by rw [evE] <;> rfl
def runS2 (r : Option (List D × Env)) : Res O := match r with
      | some (ds, ε4) => match p_slc true true ds with
        | some o => .ok o ε4
        | none => .bad
      | none => .bad
@[simp] theorem runS2_some (ds : List D) (ε : Env) : runS2 (some (ds, ε)) = okO (p_slc true true ds) ε := by simp only [runS2, okO]
theorem evE_sl2 (a b c) : evE cl sg (.sl2 a b c) ε = (evH cl sg a ε).bind fun ha ε1 => (evH cl sg b ε1).bind fun hb ε2 => match hb with
    | .val (.im (.int _)) => (evH cl sg c ε2).bind fun hc ε3 => runS2 (rds ε3 [ha, hb, hc])
    | _ => .bad := by rw [evE] <;> rfl
def chn2 (q : Prim) (r : Option O) (ε3 : Env) (k : Env → Res Hn) (hb : Hn) : Res O := match r with
      | some (.im (.bl true)) => (k ε3).bind fun hc ε4 => runP q (rds ε4 [hb, hc])
      | some (.im (.bl false)) => .ok (.im (.bl false)) ε3
      | _ => .bad
@[simp] theorem chn2_t (q ε3 k hb) : chn2 q (some (.im (.bl true))) ε3 k hb = (k ε3).bind fun hc ε4 => runP q (rds ε4 [hb, hc]) := id rfl
@[simp] theorem chn2_f (q ε3 k hb) : chn2 q (some (.im (.bl false))) ε3 k hb = .ok (.im (.bl false)) ε3 := id rfl
def chn1 (p q : Prim) (r : Option (List D × Env)) (k : Env → Res Hn) (hb : Hn) : Res O := match r with
    | some (ds, ε3) => chn2 q (prim p ds) ε3 k hb
    | none => .bad
@[simp] theorem chn1_some (p q ds ε3 k hb) : chn1 p q (some (ds, ε3)) k hb = chn2 q (prim p ds) ε3 k hb := id rfl
@[simp] theorem evE_chain (p q a b c) : evE cl sg (.chain p q a b c) ε = (evH cl sg a ε).bind fun ha ε1 => (evH cl sg b ε1).bind fun hb ε2 => if !hnIm hb then .bad else chn1 p q (rds ε2 [ha, hb]) (evH cl sg c) hb := by rw [evE] <;> rfl
def notO (o : O) (ε : Env) : Res O := match o with
    | .im (.bl b) => .ok (.im (.bl (!b))) ε
    | _ => .bad
@[simp] theorem notO_bl (b ε) : notO (.im (.bl b)) ε = .ok (.im (.bl (!b))) ε := id rfl
@[simp] theorem evE_not (a) : evE cl sg (.not a) ε = (evE cl sg a ε).bind notO := by rw [evE] <;> rfl
@[simp] theorem evE_and (es) : evE cl sg (.and es) ε = evAnd cl sg es ε := by rw [evE]
@[simp] theorem evE_or (es) : evE cl sg (.or es) ε = evOr cl sg es ε := by rw [evE]
def ifO {α : Type} (k : Bool) (a b : Env → Res α) (ε : Env) : Res α := match k with
    | true => a ε
    | false => b ε
@[simp] theorem ifO_t {α : Type} (a b : Env → Res α) (ε : Env) : ifO true a b ε = a ε := id rfl
@[simp] theorem ifO_f {α : Type} (a b : Env → Res α) (ε : Env) : ifO false a b ε = b ε := id rfl
@[simp] theorem evE_ite (c a b) : evE cl sg (.ite c a b) ε = (evT cl sg c ε).bind fun k ε1 => ifO k (evE cl sg a) (evE cl sg b) ε1 := by rw [evE] <;> rfl
@[simp] theorem evE_call (f es) : evE cl sg (.call f es) ε = (evHs cl sg es ε).bind fun hs ε1 => doCall cl sg f hs ε1 := by rw [evE]
@[simp] theorem evE_callk (f es ks) : evE cl sg (.callk f es ks) ε = (evHs cl sg es ε).bind fun hs ε1 => doCall cl sg f (ks.filterMap fun k => hs[k]?) ε1 := by rw [evE]
@[simp] theorem evE_callv {i es f} (h : ε i = some (.im (.fn f))) (hs : sg f = []) : evE cl sg (.callv i es) ε = (evHs cl sg es ε).bind fun hs ε1 => doCall cl sg f hs ε1 := by rw [evE, h]; simp [hs]
@[simp] theorem evE_app (i e) : evE cl sg (.app i e) ε = if hList ε (.slot i) then (evE cl sg e ε).bind fun o ε1 => appTo ε1 i o else .bad := by rw [evE]
theorem evE_pop (i es) : evE cl sg (.pop i es) ε = if hList ε (.slot i) then (evHs cl sg es ε).bind fun hs ε1 => match rds ε1 hs with
    | some (ds, ε2) => popOf ε2 i ds
    | none => .bad
  else .bad := by rw [evE] <;> rfl
theorem evE_dict (ks vs) : evE cl sg (.dict ks vs) ε = (evEs cl sg ks ε).bind fun ko ε1 => (evEs cl sg vs ε1).bind fun vo ε2 => if (O.ers ko).all keyD then .ok (.dc (((O.ers ko).zip (O.ers vo)).foldl (fun m p => putK m p.1 p.2) [])) ε2 else .bad := by rw [evE]
def attrO (o : O) (ε : Env) : Res O := match o with
    | .im (.exc _ v) => .ok (.im v) ε
    | _ => .bad
@[simp] theorem attrO_exc (c v ε) : attrO (.im (.exc c v)) ε = .ok (.im v) ε := id rfl
@[simp] theorem evE_attr (e) : evE cl sg (.attr e) ε = (evE cl sg e ε).bind attrO := by rw [evE] <;> rfl
theorem evE_bor (m e) : evE cl sg (.bor m e) ε = match evE cl sg e (froz m ε) with
    | .ok (.im d) ε1 => if d.scal && scals m ε1 then .ok (.im d) (unfroz m ε ε1) else .bad
    | .ok _ _ => .bad
    | .exc c v ε1 => .exc c v ε1
    | .bad => .bad := by rw [evE] <;> rfl
theorem evT_bor (m e) : evT cl sg (.bor m e) ε = match evT cl sg e (froz m ε) with
    | .ok k ε1 => if scals m ε1 then .ok k (unfroz m ε ε1) else .bad
    | .exc c v ε1 => .exc c v ε1
    | .bad => .bad := by rw [evT] <;> rfl
theorem evE_appAt (i ps e) : evE cl sg (.appAt i ps e) ε = match rdvs ε ps, rdv ε e, ε i with
    | some is, some d, some t => match appIn is d t with
      | some t' => .ok (.im .non) (up ε i t')
      | none => .bad
    | _, _, _ => .bad := by rw [evE] <;> rfl
def hVr (ε : Env) (i : Nat) : Res Hn := match ε i with
    | some _ => .ok (.slot i) ε
    | none => .bad
@[simp] theorem hVr_some {i o} (h : ε i = some o) : hVr ε i = .ok (.slot i) ε := by simp [hVr, h]
@[simp] theorem evH_var (i) : evH cl sg (.var i) ε = hVr ε i := by rw [evH]; rfl
@[simp] theorem evH_cst (c) : evH cl sg (.cst c) ε = .ok (.val (.im c.d)) ε := by rw [evH]
def hOf (r : Res O) : Res Hn := r.bind fun o ε1 => .ok (.val o) ε1
@[simp] theorem hOf_ok (o ε) : hOf (.ok o ε) = .ok (.val o) ε := id rfl
@[simp] theorem hOf_exc (c v ε) : hOf (.exc c v ε) = .exc c v ε := id rfl
@[simp] theorem evH_gl (g) : evH cl sg (.gl g) ε = .ok (.val (.im g.d)) ε := by rw [evH] <;> simp
@[simp] theorem evH_tup (es) : evH cl sg (.tup es) ε = hOf (evE cl sg (.tup es) ε) := by rw [evH] <;> simp [hOf]
@[simp] theorem evH_lst (es) : evH cl sg (.lst es) ε = hOf (evE cl sg (.lst es) ε) := by rw [evH] <;> simp [hOf]
@[simp] theorem evH_pr (p es) : evH cl sg (.pr p es) ε = hOf (evE cl sg (.pr p es) ε) := by rw [evH] <;> simp [hOf]
@[simp] theorem evH_mth (p a es) : evH cl sg (.mth p a es) ε = hOf (evE cl sg (.mth p a es) ε) := by rw [evH] <;> simp [hOf]
@[simp] theorem evH_sl2 (a b c) : evH cl sg (.sl2 a b c) ε = hOf (evE cl sg (.sl2 a b c) ε) := by rw [evH] <;> simp [hOf]
@[simp] theorem evH_chain (p q a b c) : evH cl sg (.chain p q a b c) ε = hOf (evE cl sg (.chain p q a b c) ε) := by rw [evH] <;> simp [hOf]
@[simp] theorem evH_not (a) : evH cl sg (.not a) ε = hOf (evE cl sg (.not a) ε) := by rw [evH] <;> simp [hOf]
@[simp] theorem evH_and (a) : evH cl sg (.and a) ε = hOf (evE cl sg (.and a) ε) := by rw [evH] <;> simp [hOf]
@[simp] theorem evH_or (a) : evH cl sg (.or a) ε = hOf (evE cl sg (.or a) ε) := by rw [evH] <;> simp [hOf]
@[simp] theorem evH_ite (c a b) : evH cl sg (.ite c a b) ε = hOf (evE cl sg (.ite c a b) ε) := by rw [evH] <;> simp [hOf]
@[simp] theorem evH_call (f es) : evH cl sg (.call f es) ε = hOf (evE cl sg (.call f es) ε) := by rw [evH] <;> simp [hOf]
@[simp] theorem evH_callk (f es ks) : evH cl sg (.callk f es ks) ε = hOf (evE cl sg (.callk f es ks) ε) := by rw [evH] <;> simp [hOf]
@[simp] theorem evH_callv (f es) : evH cl sg (.callv f es) ε = hOf (evE cl sg (.callv f es) ε) := by rw [evH] <;> simp [hOf]
@[simp] theorem evH_lc (e t i q o) : evH cl sg (.lc e t i q o) ε = hOf (evE cl sg (.lc e t i q o) ε) := by rw [evH] <;> simp [hOf]
@[simp] theorem evH_attr (e) : evH cl sg (.attr e) ε = hOf (evE cl sg (.attr e) ε) := by rw [evH] <;> simp [hOf]
@[simp] theorem evH_pop (i es) : evH cl sg (.pop i es) ε = hOf (evE cl sg (.pop i es) ε) := by rw [evH] <;> simp [hOf]
@[simp] theorem evH_bor (m e) : evH cl sg (.bor m e) ε = hOf (evE cl sg (.bor m e) ε) := by rw [evH] <;> simp [hOf]
@[simp] theorem evHs_nil : evHs cl sg [] ε = .ok [] ε := by rw [evHs]
@[simp] theorem evHs_cons (e es) : evHs cl sg (e :: es) ε = (evH cl sg e ε).bind fun h ε1 => (evHs cl sg es ε1).bind fun hs ε2 => .ok (h :: hs) ε2 := by rw [evHs]
@[simp] theorem evEs_nil : evEs cl sg [] ε = .ok [] ε := by rw [evEs]
@[simp] theorem evEs_cons (e es) : evEs cl sg (e :: es) ε = (evE cl sg e ε).bind fun h ε1 => (evEs cl sg es ε1).bind fun hs ε2 => .ok (h :: hs) ε2 := by rw [evEs]
def andO (r : Env → Res O) (o : O) (ε : Env) : Res O := match o with
    | .im (.bl true) => r ε
    | .im (.bl false) => .ok (.im (.bl false)) ε
    | _ => .bad
@[simp] theorem andO_t (r ε) : andO r (.im (.bl true)) ε = r ε := id rfl
@[simp] theorem andO_f (r ε) : andO r (.im (.bl false)) ε = .ok (.im (.bl false)) ε := id rfl
def orO (r : Env → Res O) (o : O) (ε : Env) : Res O := match o with
    | .im (.bl false) => r ε
    | .im (.bl true) => .ok (.im (.bl true)) ε
    | _ => .bad
@[simp] theorem orO_t (r ε) : orO r (.im (.bl true)) ε = .ok (.im (.bl true)) ε := id rfl
@[simp] theorem orO_f (r ε) : orO r (.im (.bl false)) ε = r ε := id rfl
@[simp] theorem evAnd_one (e) : evAnd cl sg [e] ε = evE cl sg e ε := by rw [evAnd]
@[simp] theorem evAnd_cons (e e' es) : evAnd cl sg (e :: e' :: es) ε = (evE cl sg e ε).bind (andO (evAnd cl sg (e' :: es))) := by
  rw [evAnd] <;> first | rfl | simp
@[simp] theorem evOr_one (e) : evOr cl sg [e] ε = evE cl sg e ε := by rw [evOr]
@[simp] theorem evOr_cons (e e' es) : evOr cl sg (e :: e' :: es) ε = (evE cl sg e ε).bind (orO (evOr cl sg (e' :: es))) := by
  rw [evOr] <;> first | rfl | simp
def tOf (o : O) (ε : Env) : Res Bool := match o with
    | .im (.bl b) => .ok b ε
    | _ => .bad
@[simp] theorem tOf_bl (b ε) : tOf (.im (.bl b)) ε = .ok b ε := id rfl
@[simp] theorem evT_not (a) : evT cl sg (.not a) ε = (evT cl sg a ε).bind fun b ε1 => .ok (!b) ε1 := by rw [evT]
@[simp] theorem evT_and (es) : evT cl sg (.and es) ε = evTs cl sg es ε := by rw [evT]
@[simp] theorem evT_or (es) : evT cl sg (.or es) ε = evTo cl sg es ε := by rw [evT]
@[simp] theorem evT_ite (c a b) : evT cl sg (.ite c a b) ε = (evT cl sg c ε).bind fun k ε1 => ifO k (evT cl sg a) (evT cl sg b) ε1 := by rw [evT] <;> rfl
@[simp] theorem evT_cst (c) : evT cl sg (.cst c) ε = (evE cl sg (.cst c) ε).bind tOf := by rw [evT] <;> first | rfl | simp
@[simp] theorem evT_var (c) : evT cl sg (.var c) ε = (evE cl sg (.var c) ε).bind tOf := by rw [evT] <;> first | rfl | simp
@[simp] theorem evT_pr (p es) : evT cl sg (.pr p es) ε = (evE cl sg (.pr p es) ε).bind tOf := by rw [evT] <;> first | rfl | simp
@[simp] theorem evT_chain (p q a b c) : evT cl sg (.chain p q a b c) ε = (evE cl sg (.chain p q a b c) ε).bind tOf := by rw [evT] <;> first | rfl | simp
@[simp] theorem evT_call (p es) : evT cl sg (.call p es) ε = (evE cl sg (.call p es) ε).bind tOf := by rw [evT] <;> first | rfl | simp
@[simp] theorem evT_callk (p es ks) : evT cl sg (.callk p es ks) ε = (evE cl sg (.callk p es ks) ε).bind tOf := by rw [evT] <;> first | rfl | simp
@[simp] theorem evT_callv (p es) : evT cl sg (.callv p es) ε = (evE cl sg (.callv p es) ε).bind tOf := by rw [evT] <;> first | rfl | simp
@[simp] theorem evT_mth (p a es) : evT cl sg (.mth p a es) ε = (evE cl sg (.mth p a es) ε).bind tOf := by rw [evT] <;> first | rfl | simp
def tsB (r : Env → Res Bool) (b : Bool) (ε : Env) : Res Bool := match b with
    | true => r ε
    | false => .ok false ε
@[simp] theorem tsB_t (r ε) : tsB r true ε = r ε := id rfl
@[simp] theorem tsB_f (r ε) : tsB r false ε = .ok false ε := id rfl
def toB (r : Env → Res Bool) (b : Bool) (ε : Env) : Res Bool := match b with
    | true => .ok true ε
    | false => r ε
@[simp] theorem toB_t (r ε) : toB r true ε = .ok true ε := id rfl
@[simp] theorem toB_f (r ε) : toB r false ε = r ε := id rfl
@[simp] theorem evTs_nil : evTs cl sg [] ε = .ok true ε := by rw [evTs]
@[simp] theorem evTs_cons (e es) : evTs cl sg (e :: es) ε = (evT cl sg e ε).bind (tsB (evTs cl sg es)) := by rw [evTs]; rfl
@[simp] theorem evTo_nil : evTo cl sg [] ε = .ok false ε := by rw [evTo]
@[simp] theorem evTo_cons (e es) : evTo cl sg (e :: es) ε = (evT cl sg e ε).bind (toB (evTo cl sg es)) := by rw [evTo]; rfl
def itR (r : Option (List D × Env)) : Res (List D) := match r with
    | some ([.int j], ε2) => if -16777216 ≤ j ∧ j ≤ 16777216 then .ok (rngD 0 j.toNat) ε2 else .bad
    | some ([.int i, .int j], ε2) => if -16777216 ≤ i ∧ i ≤ 16777216 ∧ j ≤ 16777216 ∧ -16777216 ≤ j then .ok (rngD i (j - i).toNat) ε2 else .bad
    | _ => .bad
theorem itR_one (j ε) (h : -16777216 ≤ j ∧ j ≤ 16777216) : itR (some ([.int j], ε)) = .ok (rngD 0 j.toNat) ε := by simp [itR, h]
theorem itR_nat (n : Nat) (ε) (h : n ≤ 16777216) : itR (some ([.int n], ε)) = .ok (rngD 0 n) ε := by rw [itR_one _ _ (by omega)]; simp
theorem itR_two (i j ε) (h : -16777216 ≤ i ∧ i ≤ 16777216 ∧ j ≤ 16777216 ∧ -16777216 ≤ j) : itR (some ([.int i, .int j], ε)) = .ok (rngD i (j - i).toNat) ε := by simp only [itR, if_pos h]
@[simp] theorem evIt_rng (es) : evIt cl sg (.rng es) ε = (evHs cl sg es ε).bind fun hs ε1 => itR (rds ε1 hs) := by rw [evIt]; rfl
def itS (r : Option (D × Env)) : Res (List D) := match r with
    | some (d, ε2) => match items d with
      | some xs => .ok xs ε2
      | none => .bad
    | none => .bad
@[simp] theorem itS_lst (xs ε) : itS (some (.lst xs, ε)) = .ok xs ε := id rfl
@[simp] theorem itS_tup (xs ε) : itS (some (.tup xs, ε)) = .ok xs ε := id rfl
@[simp] theorem evIt_var (i) : evIt cl sg (.var i) ε = (evH cl sg (.var i) ε).bind fun h ε1 => itS (rdF ε1 h) := by rw [evIt] <;> first | rfl | simp
@[simp] theorem evIt_pr (p es) : evIt cl sg (.pr p es) ε = (evH cl sg (.pr p es) ε).bind fun h ε1 => itS (rdF ε1 h) := by rw [evIt] <;> first | rfl | simp
@[simp] theorem evIt_tup (es) : evIt cl sg (.tup es) ε = (evH cl sg (.tup es) ε).bind fun h ε1 => itS (rdF ε1 h) := by rw [evIt] <;> first | rfl | simp
@[simp] theorem evIt_lst (es) : evIt cl sg (.lst es) ε = (evH cl sg (.lst es) ε).bind fun h ε1 => itS (rdF ε1 h) := by rw [evIt] <;> first | rfl | simp
@[simp] theorem evIt_call (f es) : evIt cl sg (.call f es) ε = (evH cl sg (.call f es) ε).bind fun h ε1 => itS (rdF ε1 h) := by rw [evIt] <;> first | rfl | simp
@[simp] theorem evIt_lc (e t i q o) : evIt cl sg (.lc e t i q o) ε = (evH cl sg (.lc e t i q o) ε).bind fun h ε1 => itS (rdF ε1 h) := by rw [evIt] <;> first | rfl | simp
@[simp] theorem take_im {i d} (h : ε i = some (.im d)) : take ε i = .ok (.im d) ε := by simp [take, h]
@[simp] theorem take_ls {i ds} (h : ε i = some (.ls ds)) : take ε i = .ok (.im (.lst ds)) (up ε i (.im (.lst ds))) := by simp [take, h, O.er]
@[simp] theorem rd_im {i d} (h : ε i = some (.im d)) : rd ε (.slot i) = some (d, ε) := by simp [rd, h]
@[simp] theorem rdq_ls {i ds} (h : ε i = some (.ls ds)) : rd ε (.slot i) = some (.lst ds, ε) := by simp [rd, h]
@[simp] theorem rd_val {o} : rd ε (.val o) = some (o.er, ε) := by simp [rd]
@[simp] theorem rdF_im {i d} (h : ε i = some (.im d)) : rdF ε (.slot i) = some (d, ε) := by simp [rdF, h]
@[simp] theorem rdF_ls {i ds} (h : ε i = some (.ls ds)) : rdF ε (.slot i) = some (.lst ds, up ε i (.im (.lst ds))) := by simp [rdF, h, O.er]
@[simp] theorem rdF_val {o} : rdF ε (.val o) = some (o.er, ε) := by simp [rdF]
@[simp] theorem take_tup {i ds} (h : ε i = some (.tup ds)) : take ε i = .ok (.im (.tup (O.ers ds))) (up ε i (.im (.tup (O.ers ds)))) := by simp [take, h, O.er]
@[simp] theorem take_lst {i ds} (h : ε i = some (.lst ds)) : take ε i = .ok (.im (.lst (O.ers ds))) (up ε i (.im (.lst (O.ers ds)))) := by simp [take, h, O.er]
@[simp] theorem rd_tup {i ds} (h : ε i = some (.tup ds)) : rd ε (.slot i) = some (.tup (O.ers ds), up ε i (.im (.tup (O.ers ds)))) := by simp [rd, h]
@[simp] theorem rdq_lst {i ds} (h : ε i = some (.lst ds)) : rd ε (.slot i) = some (.lst (O.ers ds), up ε i (.ls (O.ers ds))) := by simp [rd, h]
@[simp] theorem rdF_tup {i ds} (h : ε i = some (.tup ds)) : rdF ε (.slot i) = some (.tup (O.ers ds), up ε i (.im (.tup (O.ers ds)))) := by simp [rdF, h, O.er]
@[simp] theorem rdF_lst {i ds} (h : ε i = some (.lst ds)) : rdF ε (.slot i) = some (.lst (O.ers ds), up ε i (.im (.lst (O.ers ds)))) := by simp [rdF, h, O.er]
@[simp] theorem rds_nil : rds ε [] = some ([], ε) := id rfl
def consD (d : D) (r : Option (List D × Env)) : Option (List D × Env) := match r with
      | some (ds, ε2) => some (d :: ds, ε2)
      | none => none
@[simp] theorem consD_some (d ds ε) : consD d (some (ds, ε)) = some (d :: ds, ε) := id rfl
theorem rds_cons_of {h hs d ε1} (e : rd ε h = some (d, ε1)) : rds ε (h :: hs) = consD d (rds ε1 hs) := by rw [rds, e]; rfl
@[simp] theorem rds_val {o hs} : rds ε (.val o :: hs) = consD o.er (rds ε hs) := rds_cons_of rd_val
@[simp] theorem rds_im {i d hs} (h : ε i = some (.im d)) : rds ε (.slot i :: hs) = consD d (rds ε hs) := rds_cons_of (rd_im h)
@[simp] theorem rds_ls {i ds hs} (h : ε i = some (.ls ds)) : rds ε (.slot i :: hs) = consD (.lst ds) (rds ε hs) := rds_cons_of (rdq_ls h)
@[simp] theorem rds_tup {i ds hs} (h : ε i = some (.tup ds)) : rds ε (.slot i :: hs) = consD (.tup (O.ers ds)) (rds (up ε i (.im (.tup (O.ers ds)))) hs) := rds_cons_of (rd_tup h)
@[simp] theorem rds_lst {i ds hs} (h : ε i = some (.lst ds)) : rds ε (.slot i :: hs) = consD (.lst (O.ers ds)) (rds (up ε i (.ls (O.ers ds))) hs) := rds_cons_of (rdq_lst h)
@[simp] theorem er_im (d) : O.er (.im d) = d := by rw [O.er]
@[simp] theorem er_ls (d) : O.er (.ls d) = .lst d := by rw [O.er]
@[simp] theorem er_lst (d) : O.er (.lst d) = .lst (O.ers d) := by rw [O.er]
@[simp] theorem er_tup (d) : O.er (.tup d) = .tup (O.ers d) := by rw [O.er]
@[simp] theorem ers_nil : O.ers [] = [] := by rw [O.ers]
@[simp] theorem ers_cons (o os) : O.ers (o :: os) = o.er :: O.ers os := by rw [O.ers]
@[simp] theorem ims_nil : O.ims [] = some [] := id rfl
theorem ims_map (ds : List D) : O.ims (ds.map O.im) = some ds := by
  induction ds with
  | nil => rfl
  | cons d ds ih => simp [O.ims, ih]
theorem mk_ims (f g) (ds : List D) : mk f g (ds.map O.im) = f ds := by simp [mk, ims_map]
@[simp] theorem mk_nil (f g) : mk f g [] = f [] := id rfl
@[simp] theorem mk_1 (f g a) : mk f g [.im a] = f [a] := id rfl
@[simp] theorem mk_2 (f g a b) : mk f g [.im a, .im b] = f [a, b] := id rfl
@[simp] theorem mk_3 (f g a b c) : mk f g [.im a, .im b, .im c] = f [a, b, c] := id rfl
@[simp] theorem mk_4 (f g a b c d) : mk f g [.im a, .im b, .im c, .im d] = f [a, b, c, d] := id rfl
@[simp] theorem mk_5 (f g a b c d e) : mk f g [.im a, .im b, .im c, .im d, .im e] = f [a, b, c, d, e] := id rfl
@[simp] theorem mk_6 (f g a b c d e k) : mk f g [.im a, .im b, .im c, .im d, .im e, .im k] = f [a, b, c, d, e, k] := id rfl
@[simp] theorem mk_7 (f g a b c d e k l) : mk f g [.im a, .im b, .im c, .im d, .im e, .im k, .im l] = f [a, b, c, d, e, k, l] := id rfl
@[simp] theorem mk_0ls (f g  ds os) : mk f g (.ls ds :: os) = g (.ls ds :: os) := id rfl
@[simp] theorem mk_0tup (f g  ds os) : mk f g (.tup ds :: os) = g (.tup ds :: os) := id rfl
@[simp] theorem mk_0lst (f g  ds os) : mk f g (.lst ds :: os) = g (.lst ds :: os) := id rfl
@[simp] theorem mk_0dc (f g  ds os) : mk f g (.dc ds :: os) = g (.dc ds :: os) := id rfl
@[simp] theorem mk_1ls (f g a0 ds os) : mk f g (.im a0 :: .ls ds :: os) = g (.im a0 :: .ls ds :: os) := id rfl
@[simp] theorem mk_1tup (f g a0 ds os) : mk f g (.im a0 :: .tup ds :: os) = g (.im a0 :: .tup ds :: os) := id rfl
@[simp] theorem mk_1lst (f g a0 ds os) : mk f g (.im a0 :: .lst ds :: os) = g (.im a0 :: .lst ds :: os) := id rfl
@[simp] theorem mk_1dc (f g a0 ds os) : mk f g (.im a0 :: .dc ds :: os) = g (.im a0 :: .dc ds :: os) := id rfl
@[simp] theorem mk_2ls (f g a0 a1 ds os) : mk f g (.im a0 :: .im a1 :: .ls ds :: os) = g (.im a0 :: .im a1 :: .ls ds :: os) := id rfl
@[simp] theorem mk_2tup (f g a0 a1 ds os) : mk f g (.im a0 :: .im a1 :: .tup ds :: os) = g (.im a0 :: .im a1 :: .tup ds :: os) := id rfl
@[simp] theorem mk_2lst (f g a0 a1 ds os) : mk f g (.im a0 :: .im a1 :: .lst ds :: os) = g (.im a0 :: .im a1 :: .lst ds :: os) := id rfl
@[simp] theorem mk_2dc (f g a0 a1 ds os) : mk f g (.im a0 :: .im a1 :: .dc ds :: os) = g (.im a0 :: .im a1 :: .dc ds :: os) := id rfl
@[simp] theorem mk_3ls (f g a0 a1 a2 ds os) : mk f g (.im a0 :: .im a1 :: .im a2 :: .ls ds :: os) = g (.im a0 :: .im a1 :: .im a2 :: .ls ds :: os) := id rfl
@[simp] theorem mk_3tup (f g a0 a1 a2 ds os) : mk f g (.im a0 :: .im a1 :: .im a2 :: .tup ds :: os) = g (.im a0 :: .im a1 :: .im a2 :: .tup ds :: os) := id rfl
@[simp] theorem mk_3lst (f g a0 a1 a2 ds os) : mk f g (.im a0 :: .im a1 :: .im a2 :: .lst ds :: os) = g (.im a0 :: .im a1 :: .im a2 :: .lst ds :: os) := id rfl
@[simp] theorem mk_3dc (f g a0 a1 a2 ds os) : mk f g (.im a0 :: .im a1 :: .im a2 :: .dc ds :: os) = g (.im a0 :: .im a1 :: .im a2 :: .dc ds :: os) := id rfl
@[simp] theorem mk_4ls (f g a0 a1 a2 a3 ds os) : mk f g (.im a0 :: .im a1 :: .im a2 :: .im a3 :: .ls ds :: os) = g (.im a0 :: .im a1 :: .im a2 :: .im a3 :: .ls ds :: os) := id rfl
@[simp] theorem mk_4tup (f g a0 a1 a2 a3 ds os) : mk f g (.im a0 :: .im a1 :: .im a2 :: .im a3 :: .tup ds :: os) = g (.im a0 :: .im a1 :: .im a2 :: .im a3 :: .tup ds :: os) := id rfl
@[simp] theorem mk_4lst (f g a0 a1 a2 a3 ds os) : mk f g (.im a0 :: .im a1 :: .im a2 :: .im a3 :: .lst ds :: os) = g (.im a0 :: .im a1 :: .im a2 :: .im a3 :: .lst ds :: os) := id rfl
@[simp] theorem mk_4dc (f g a0 a1 a2 a3 ds os) : mk f g (.im a0 :: .im a1 :: .im a2 :: .im a3 :: .dc ds :: os) = g (.im a0 :: .im a1 :: .im a2 :: .im a3 :: .dc ds :: os) := id rfl
@[simp] theorem mk_5ls (f g a0 a1 a2 a3 a4 ds os) : mk f g (.im a0 :: .im a1 :: .im a2 :: .im a3 :: .im a4 :: .ls ds :: os) = g (.im a0 :: .im a1 :: .im a2 :: .im a3 :: .im a4 :: .ls ds :: os) := id rfl
@[simp] theorem mk_5tup (f g a0 a1 a2 a3 a4 ds os) : mk f g (.im a0 :: .im a1 :: .im a2 :: .im a3 :: .im a4 :: .tup ds :: os) = g (.im a0 :: .im a1 :: .im a2 :: .im a3 :: .im a4 :: .tup ds :: os) := id rfl
@[simp] theorem mk_5lst (f g a0 a1 a2 a3 a4 ds os) : mk f g (.im a0 :: .im a1 :: .im a2 :: .im a3 :: .im a4 :: .lst ds :: os) = g (.im a0 :: .im a1 :: .im a2 :: .im a3 :: .im a4 :: .lst ds :: os) := id rfl
@[simp] theorem mk_5dc (f g a0 a1 a2 a3 a4 ds os) : mk f g (.im a0 :: .im a1 :: .im a2 :: .im a3 :: .im a4 :: .dc ds :: os) = g (.im a0 :: .im a1 :: .im a2 :: .im a3 :: .im a4 :: .dc ds :: os) := id rfl
@[simp] theorem mk_6ls (f g a0 a1 a2 a3 a4 a5 ds os) : mk f g (.im a0 :: .im a1 :: .im a2 :: .im a3 :: .im a4 :: .im a5 :: .ls ds :: os) = g (.im a0 :: .im a1 :: .im a2 :: .im a3 :: .im a4 :: .im a5 :: .ls ds :: os) := id rfl
@[simp] theorem mk_6tup (f g a0 a1 a2 a3 a4 a5 ds os) : mk f g (.im a0 :: .im a1 :: .im a2 :: .im a3 :: .im a4 :: .im a5 :: .tup ds :: os) = g (.im a0 :: .im a1 :: .im a2 :: .im a3 :: .im a4 :: .im a5 :: .tup ds :: os) := id rfl
@[simp] theorem mk_6lst (f g a0 a1 a2 a3 a4 a5 ds os) : mk f g (.im a0 :: .im a1 :: .im a2 :: .im a3 :: .im a4 :: .im a5 :: .lst ds :: os) = g (.im a0 :: .im a1 :: .im a2 :: .im a3 :: .im a4 :: .im a5 :: .lst ds :: os) := id rfl
@[simp] theorem mk_6dc (f g a0 a1 a2 a3 a4 a5 ds os) : mk f g (.im a0 :: .im a1 :: .im a2 :: .im a3 :: .im a4 :: .im a5 :: .dc ds :: os) = g (.im a0 :: .im a1 :: .im a2 :: .im a3 :: .im a4 :: .im a5 :: .dc ds :: os) := id rfl
@[simp] theorem mk_7ls (f g a0 a1 a2 a3 a4 a5 a6 ds os) : mk f g (.im a0 :: .im a1 :: .im a2 :: .im a3 :: .im a4 :: .im a5 :: .im a6 :: .ls ds :: os) = g (.im a0 :: .im a1 :: .im a2 :: .im a3 :: .im a4 :: .im a5 :: .im a6 :: .ls ds :: os) := id rfl
@[simp] theorem mk_7tup (f g a0 a1 a2 a3 a4 a5 a6 ds os) : mk f g (.im a0 :: .im a1 :: .im a2 :: .im a3 :: .im a4 :: .im a5 :: .im a6 :: .tup ds :: os) = g (.im a0 :: .im a1 :: .im a2 :: .im a3 :: .im a4 :: .im a5 :: .im a6 :: .tup ds :: os) := id rfl
@[simp] theorem mk_7lst (f g a0 a1 a2 a3 a4 a5 a6 ds os) : mk f g (.im a0 :: .im a1 :: .im a2 :: .im a3 :: .im a4 :: .im a5 :: .im a6 :: .lst ds :: os) = g (.im a0 :: .im a1 :: .im a2 :: .im a3 :: .im a4 :: .im a5 :: .im a6 :: .lst ds :: os) := id rfl
@[simp] theorem mk_7dc (f g a0 a1 a2 a3 a4 a5 a6 ds os) : mk f g (.im a0 :: .im a1 :: .im a2 :: .im a3 :: .im a4 :: .im a5 :: .im a6 :: .dc ds :: os) = g (.im a0 :: .im a1 :: .im a2 :: .im a3 :: .im a4 :: .im a5 :: .im a6 :: .dc ds :: os) := id rfl
@[simp] theorem mk_8ls (f g a0 a1 a2 a3 a4 a5 a6 a7 ds os) : mk f g (.im a0 :: .im a1 :: .im a2 :: .im a3 :: .im a4 :: .im a5 :: .im a6 :: .im a7 :: .ls ds :: os) = g (.im a0 :: .im a1 :: .im a2 :: .im a3 :: .im a4 :: .im a5 :: .im a6 :: .im a7 :: .ls ds :: os) := id rfl
@[simp] theorem mk_8tup (f g a0 a1 a2 a3 a4 a5 a6 a7 ds os) : mk f g (.im a0 :: .im a1 :: .im a2 :: .im a3 :: .im a4 :: .im a5 :: .im a6 :: .im a7 :: .tup ds :: os) = g (.im a0 :: .im a1 :: .im a2 :: .im a3 :: .im a4 :: .im a5 :: .im a6 :: .im a7 :: .tup ds :: os) := id rfl
@[simp] theorem mk_8lst (f g a0 a1 a2 a3 a4 a5 a6 a7 ds os) : mk f g (.im a0 :: .im a1 :: .im a2 :: .im a3 :: .im a4 :: .im a5 :: .im a6 :: .im a7 :: .lst ds :: os) = g (.im a0 :: .im a1 :: .im a2 :: .im a3 :: .im a4 :: .im a5 :: .im a6 :: .im a7 :: .lst ds :: os) := id rfl
@[simp] theorem mk_8dc (f g a0 a1 a2 a3 a4 a5 a6 a7 ds os) : mk f g (.im a0 :: .im a1 :: .im a2 :: .im a3 :: .im a4 :: .im a5 :: .im a6 :: .im a7 :: .dc ds :: os) = g (.im a0 :: .im a1 :: .im a2 :: .im a3 :: .im a4 :: .im a5 :: .im a6 :: .im a7 :: .dc ds :: os) := id rfl
@[simp] theorem d_non : Cst.d .non = .non := id rfl
@[simp] theorem d_bl (b) : Cst.d (.bl b) = .bl b := id rfl
@[simp] theorem d_int (b) : Cst.d (.int b) = .int b := id rfl
@[simp] theorem d_str (b) : Cst.d (.str b) = .str b := id rfl
@[simp] theorem d_fn (b) : Gl.d (.fn b) = .fn b := id rfl
@[simp] theorem d_ty (b) : Gl.d (.ty b) = .ty b := id rfl
@[simp] theorem d_cls (b) : Gl.d (.cls b) = .cls b := id rfl
@[simp] theorem d_gint (x b) : Gl.d (.int x b) = .int b := id rfl
end eqs
section sts
variable {cl : Nat → List O → COut} {sg : Nat → List Nat} {mp : List Nat} {ε : Env}
def nx (r : Option Env) : Res Fl := match r with
    | some ε2 => .ok .next ε2
    | none => .bad
@[simp] theorem nx_some (ε) : nx (some ε) = .ok .next ε := id rfl
@[simp] theorem evS_asg (t e) : evS cl sg mp (.asg t e) ε = (evE cl sg e ε).bind fun o ε1 => nx (bindT mp t o ε1) := by rw [evS]; rfl
@[simp] theorem evS_par (is es) : evS cl sg mp (.par is es) ε = (evEs cl sg es ε).bind fun os ε1 => nx (bindTs mp (is.map Tg.name) os ε1) := by rw [evS]; rfl
def six (i : Nat) (o : O) (r : Option (D × Env)) : Res Fl := match r with
    | some (d, ε3) => setTo ε3 i d o
    | none => .bad
@[simp] theorem six_some (i o d ε) : six i o (some (d, ε)) = setTo ε i d o := id rfl
@[simp] theorem evS_setix (i k e) : evS cl sg mp (.setix i k e) ε = (evE cl sg e ε).bind fun o ε1 => if hList ε1 (.slot i) then (evH cl sg k ε1).bind fun hk ε2 => six i o (rd ε2 hk) else .bad := by rw [evS]; rfl
@[simp] theorem evS_exp (e) : evS cl sg mp (.exp e) ε = (evE cl sg e ε).bind fun _ ε1 => .ok .next ε1 := by rw [evS]
theorem evS_retv {i o} (hm : mp.contains i = false) (h : ε i = some o) : evS cl sg mp (.ret (.var i)) ε = .ok (.ret o) ε := by rw [evS]; simp only [hm, h, Bool.false_eq_true, if_false]
@[simp] theorem evS_retv' {i o} (h : ε i = some o) : evS cl sg mp (.ret (.var i)) ε = if mp.contains i then .bad else .ok (.ret o) ε := by rw [evS]; simp [h]
@[simp] theorem evS_ret_cst (c) : evS cl sg mp (.ret (.cst c)) ε = .ok (.ret (.im c.d)) ε := by rw [evS] <;> simp
def retO (o : O) (ε : Env) : Res Fl := .ok (.ret o) ε
@[simp] theorem retO_eq (o ε) : retO o ε = .ok (.ret o) ε := id rfl
@[simp] theorem evS_ret_pr (p es) : evS cl sg mp (.ret (.pr p es)) ε = (evE cl sg (.pr p es) ε).bind retO := by rw [evS] <;> first | rfl | simp
@[simp] theorem evS_ret_tup (es) : evS cl sg mp (.ret (.tup es)) ε = (evE cl sg (.tup es) ε).bind retO := by rw [evS] <;> first | rfl | simp
@[simp] theorem evS_ret_lst (es) : evS cl sg mp (.ret (.lst es)) ε = (evE cl sg (.lst es) ε).bind retO := by rw [evS] <;> first | rfl | simp
@[simp] theorem evS_ret_and (es) : evS cl sg mp (.ret (.and es)) ε = (evE cl sg (.and es) ε).bind retO := by rw [evS] <;> first | rfl | simp
@[simp] theorem evS_ret_or (es) : evS cl sg mp (.ret (.or es)) ε = (evE cl sg (.or es) ε).bind retO := by rw [evS] <;> first | rfl | simp
@[simp] theorem evS_ret_not (e) : evS cl sg mp (.ret (.not e)) ε = (evE cl sg (.not e) ε).bind retO := by rw [evS] <;> first | rfl | simp
@[simp] theorem evS_ret_ite (c a b) : evS cl sg mp (.ret (.ite c a b)) ε = (evE cl sg (.ite c a b) ε).bind retO := by rw [evS] <;> first | rfl | simp
@[simp] theorem evS_ret_call (c a) : evS cl sg mp (.ret (.call c a)) ε = (evE cl sg (.call c a) ε).bind retO := by rw [evS] <;> first | rfl | simp
@[simp] theorem evS_ret_callv (c a) : evS cl sg mp (.ret (.callv c a)) ε = (evE cl sg (.callv c a) ε).bind retO := by rw [evS] <;> first | rfl | simp
@[simp] theorem evS_ret_lc (e t i q o) : evS cl sg mp (.ret (.lc e t i q o)) ε = (evE cl sg (.lc e t i q o) ε).bind retO := by rw [evS] <;> first | rfl | simp
@[simp] theorem evS_ret_chain (p q a b c) : evS cl sg mp (.ret (.chain p q a b c)) ε = (evE cl sg (.chain p q a b c) ε).bind retO := by rw [evS] <;> first | rfl | simp
@[simp] theorem evS_ret_bor (m e) : evS cl sg mp (.ret (.bor m e)) ε = (evE cl sg (.bor m e) ε).bind retO := by rw [evS] <;> first | rfl | simp
@[simp] theorem evS_retN : evS cl sg mp .retN ε = .ok (.ret (.im .non)) ε := by rw [evS]
@[simp] theorem evS_ite (c a b) : evS cl sg mp (.ite c a b) ε = (evT cl sg c ε).bind fun k ε1 => ifO k (evSs cl sg mp a) (evSs cl sg mp b) ε1 := by rw [evS]; rfl
def forStep (cl : Nat → List O → COut) (sg : Nat → List Nat) (mp : List Nat) (t : Tg) (b : List St) : D → Env → Res Fl := fun x ε => match bindT mp t (.im x) ε with
    | some ε2 => evSs cl sg mp b ε2
    | none => .bad
theorem evS_for (t it b) : evS cl sg mp (.for_ t it b) ε = (evIt cl sg it ε).bind fun xs ε1 => forIt (forStep cl sg mp t b) xs ε1 := by rw [evS]; rfl
theorem evS_whl (c b) : evS cl sg mp (.whl c b) ε = whlIt (evT cl sg c) (evSs cl sg mp b) W ε := by rw [evS]
def rseO (c : Nat) (o : O) (ε : Env) : Res Fl := .exc c o.er ε
@[simp] theorem rseO_eq (c o ε) : rseO c o ε = .exc c o.er ε := id rfl
@[simp] theorem evS_rse (c e) : evS cl sg mp (.rse c e) ε = (evE cl sg e ε).bind (rseO c) := by rw [evS]; rfl
def tryO (m i : Nat) (r : Res O) : Res Fl := match r with
    | .ok _ ε1 => .ok .next ε1
    | .exc k v ε1 => .ok .next (clr i (up ε1 m (.im (.exc k v))))
    | .bad => .bad
@[simp] theorem tryO_ok (m i o ε) : tryO m i (.ok o ε) = .ok .next ε := id rfl
@[simp] theorem tryO_exc (m i c v ε) : tryO m i (.exc c v ε) = .ok .next (clr i (up ε m (.im (.exc c v)))) := id rfl
@[simp] theorem evS_tryM (e c m i) : evS cl sg mp (.tryM e c m i) ε = if mp.contains m || mp.contains i || m == i then .bad else tryO m i (evE cl sg e ε) := by rw [evS]; rfl
@[simp] theorem evS_pass : evS cl sg mp .pass ε = .ok .next ε := by rw [evS]
@[simp] theorem evSs_nil : evSs cl sg mp [] ε = .ok .next ε := by rw [evSs]
def thn (r : Res Fl) (k : Env → Res Fl) : Res Fl := match r with
    | .ok .next ε1 => k ε1
    | r => r
@[simp] theorem thn_next (ε k) : thn (.ok .next ε) k = k ε := id rfl
@[simp] theorem thn_ret (o ε k) : thn (.ok (.ret o) ε) k = .ok (.ret o) ε := id rfl
@[simp] theorem thn_exc (c v ε k) : thn (.exc c v ε) k = .exc c v ε := id rfl
@[simp] theorem evSs_cons (s ss) : evSs cl sg mp (s :: ss) ε = thn (evS cl sg mp s ε) (evSs cl sg mp ss) := by rw [evSs]; rfl
@[simp] theorem bindT_name (i o) : bindT mp (.name i) o ε = if mp.contains i then none else some (up ε i o) := by rw [bindT]
@[simp] theorem bindT_tup_im (ts ds) : bindT mp (.tup ts) (.im (.tup ds)) ε = bindTs mp ts (ds.map O.im) ε := by rw [bindT]
@[simp] theorem bindT_tup (ts os) : bindT mp (.tup ts) (.tup os) ε = bindTs mp ts os ε := by rw [bindT]
@[simp] theorem bindTs_nil : bindTs mp [] [] ε = some ε := by rw [bindTs]
def thnE (r : Option Env) (k : Env → Option Env) : Option Env := match r with
    | some ε' => k ε'
    | none => none
@[simp] theorem thnE_some (ε k) : thnE (some ε) k = k ε := id rfl
@[simp] theorem bindTs_cons (t ts o os) : bindTs mp (t :: ts) (o :: os) ε = thnE (bindT mp t o ε) (bindTs mp ts os) := by rw [bindTs]; rfl
@[simp] theorem hList_slot_ls {i ds} (h : ε i = some (.ls ds)) : hList ε (.slot i) = true := by simp [hList, h]
@[simp] theorem hList_slot_lst {i ds} (h : ε i = some (.lst ds)) : hList ε (.slot i) = true := by simp [hList, h]
@[simp] theorem hList_slot_im {i ds} (h : ε i = some (.im (.lst ds))) : hList ε (.slot i) = true := by simp [hList, h]
@[simp] theorem hList_val_ls {ds} : hList ε (.val (.ls ds)) = true := by simp [hList]
@[simp] theorem hList_val_im {ds} : hList ε (.val (.im (.lst ds))) = true := by simp [hList]
end sts
end Ev
end
section
set_option linter.all false
set_option maxRecDepth 100000
set_option maxHeartbeats 4000000
/-! Loops, comprehensions, calls, by their plain meaning. -/
namespace Ev
open PySem
/-! ### environments that agree but for some names -/
def Fr (M : List Nat) (ε ε0 : Env) : Prop := ∀ j, M.contains j = false → ε j = ε0 j
theorem Fr.refl (M ε) : Fr M ε ε := fun _ _ => rfl
theorem Fr.trans {M ε1 ε2 ε3} (h : Fr M ε1 ε2) (h' : Fr M ε2 ε3) : Fr M ε1 ε3 := fun j hj => (h j hj).trans (h' j hj)
theorem Fr.up {M ε ε0 i o} (hi : M.contains i = true) (h : Fr M ε ε0) : Fr M (up ε i o) ε0 := fun j hj => by
  rw [up_ne _ _ _ _ (by rintro rfl; rw [hi] at hj; cases hj)]; exact h j hj
theorem Fr.mono {M N ε ε0} (hs : ∀ j, N.contains j = false → M.contains j = false) (h : Fr M ε ε0) : Fr N ε ε0 := fun j hj => h j (hs j hj)
/-! ### for -/
theorem forIt_inv {α : Type} {step : D → Env → Res Fl} (enc : α → D) (I : List α → List α → Env → Prop)
    (hs : ∀ xs x ys ε, I xs (x :: ys) ε → ∃ ε', step (enc x) ε = .ok .next ε' ∧ I (xs ++ [x]) ys ε') :
    ∀ (ys xs : List α) (ε : Env), I xs ys ε → ∃ ε', forIt step (ys.map enc) ε = .ok .next ε' ∧ I (xs ++ ys) [] ε'
  | [], xs, ε, h => ⟨ε, rfl, by simpa using h⟩
  | y :: ys, xs, ε, h => by
    obtain ⟨ε1, h1, h2⟩ := hs xs y ys ε h
    obtain ⟨ε2, h3, h4⟩ := forIt_inv enc I hs ys (xs ++ [y]) ε1 h2
    refine ⟨ε2, ?_, by simpa using h4⟩
    rw [List.map_cons, forIt, h1]
    exact h3
/-- a for over typed items, an invariant of those done; frame and rest told by I -/
theorem for_list {α : Type} {cl sg mp t it b ε ε1} (enc : α → D) (xs : List α) (hit : evIt cl sg it ε = .ok (xs.map enc) ε1) (I : List α → Env → Prop) (h0 : I [] ε1)
    (hs : ∀ done x rest ε, done ++ x :: rest = xs → I done ε → ∃ ε', forStep cl sg mp t b (enc x) ε = .ok .next ε' ∧ I (done ++ [x]) ε') :
    ∃ ε', evS cl sg mp (.for_ t it b) ε = .ok .next ε' ∧ I xs ε' := by
  obtain ⟨ε', h1, h2⟩ := forIt_inv (step := forStep cl sg mp t b) enc (fun d r ε => d ++ r = xs ∧ I d ε) (fun d x r ε ⟨e, h⟩ => by
    obtain ⟨ε', h1, h2⟩ := hs d x r ε e h
    exact ⟨ε', h1, by simpa using e, h2⟩) xs [] ε1 ⟨by simp, h0⟩
  refine ⟨ε', ?_, by simpa using h2.2⟩
  rw [evS_for, hit]; exact h1
theorem for_rng {cl sg mp t it b ε ε1} {lo : Int} {n : Nat} (hit : evIt cl sg it ε = .ok (rngD lo n) ε1) (I : Nat → Env → Prop) (h0 : I 0 ε1)
    (hs : ∀ k ε, k < n → I k ε → ∃ ε', forStep cl sg mp t b (.int (lo + k)) ε = .ok .next ε' ∧ I (k + 1) ε') :
    ∃ ε', evS cl sg mp (.for_ t it b) ε = .ok .next ε' ∧ I n ε' := by
  have := for_list (mp := mp) (t := t) (b := b) (fun (i : Nat) => D.int (lo + (i : Int))) (List.range n) hit (fun d ε => d = List.range d.length ∧ I d.length ε) ⟨rfl, h0⟩ (fun d x r ε e ⟨h1, h2⟩ => by
    have hl : d.length < n := by have := congrArg List.length e; simp at this; omega
    have hx : x = d.length := by
      have := congrArg (fun l => l[d.length]?) e
      simp [List.getElem?_append_right, hl] at this
      exact this
    subst hx
    obtain ⟨ε', h3, h4⟩ := hs d.length ε hl h2
    exact ⟨ε', h3, by simp [List.range_succ, ← h1], by simpa using h4⟩)
  obtain ⟨ε', h1, h2, h3⟩ := this
  exact ⟨ε', h1, by simpa using h3⟩
/-! ### while -/
theorem whlIt_inv {c : Env → Res Bool} {b : Env → Res Fl} (I : Nat → Env → Prop) (R : Env → Prop)
    (hs : ∀ n ε, I n ε → (∃ ε1, c ε = .ok false ε1 ∧ R ε1) ∨ (∃ ε1 ε2 m, c ε = .ok true ε1 ∧ b ε1 = .ok .next ε2 ∧ m < n ∧ I m ε2)) :
    ∀ (fuel n : Nat) (ε : Env), n < fuel → I n ε → ∃ ε', whlIt c b fuel ε = .ok .next ε' ∧ R ε'
  | 0, _, _, h, _ => absurd h (Nat.not_lt_zero _)
  | fuel + 1, n, ε, hf, h => by
    rcases hs n ε h with ⟨ε1, h1, h2⟩ | ⟨ε1, ε2, m, h1, h2, h3, h4⟩
    · exact ⟨ε1, by rw [whlIt, h1], h2⟩
    · obtain ⟨ε', h5, h6⟩ := whlIt_inv I R hs fuel m ε2 (by omega) h4
      exact ⟨ε', by rw [whlIt, h1]; simp only [h2]; exact h5, h6⟩
theorem whl_inv {cl sg mp c b ε} (n : Nat) (I : Nat → Env → Prop) (R : Env → Prop) (h0 : I n ε) (hn : n < 1000000)
    (hs : ∀ n ε, I n ε → (∃ ε1, evT cl sg c ε = .ok false ε1 ∧ R ε1) ∨ (∃ ε1 ε2 m, evT cl sg c ε = .ok true ε1 ∧ evSs cl sg mp b ε1 = .ok .next ε2 ∧ m < n ∧ I m ε2)) :
    ∃ ε', evS cl sg mp (.whl c b) ε = .ok .next ε' ∧ R ε' := by
  rw [evS_whl]; exact whlIt_inv I R hs W n ε (by unfold W; exact hn) h0
/-! ### comprehensions -/
def lcB (cl : Nat → List O → COut) (sg : Nat → List Nat) (tg : Tg) (ifs : List Ex) (e : Ex) (x : D) (ε : Env) : Res (Option O) := match bindT [] tg (.im x) ε with
      | some ε2 => (evTs cl sg ifs ε2).bind fun k ε3 => match k with
        | true => (evE cl sg e ε3).bind fun o ε4 => .ok (some o) ε4
        | false => .ok none ε3
      | none => .bad
theorem evE_lc {cl sg e tg it ifs own ε} : evE cl sg (.lc e tg it ifs own) ε = (evIt cl sg it ε).bind fun xs ε1 => if 16777216 < xs.length then .bad else
    (lcIt (fun x ε => lcB cl sg tg ifs e x (wipe own ε)) xs (wipe own ε1)).bind fun os ε5 => .ok (mk .ls .lst os) (unwipe own ε1 ε5) := by rw [evE]; rfl
/-- own names shown to others -/
def rez (own : List Nat) (ε : Env) : Env := fun i => if own.contains i then (ε i).map (fun o => .im o.er) else ε i
theorem rez_ne {own ε j} (h : own.contains j = false) : rez own ε j = ε j := by simp only [rez, h]; rfl
theorem rez_none {own ε j} (h : ε j = none) : rez own ε j = none := by simp [rez, h]
theorem rez_im {own ε j d} (h : ε j = some (.im d)) : rez own ε j = some (.im d) := by simp [rez, h]
theorem wipe_ne {own ε j} (h : own.contains j = false) : wipe own ε j = ε j := by simp only [wipe, h]; rfl
theorem wipe_in {own ε j} (h : own.contains j = true) : wipe own ε j = none := by simp only [wipe, h]; rfl
theorem wipe_of_fr {own ε ε0} (h : Fr own ε ε0) : wipe own ε = wipe own ε0 := by
  funext j
  cases hj : own.contains j
  · rw [wipe_ne hj, wipe_ne hj, h j hj]
  · rw [wipe_in hj, wipe_in hj]
theorem fr_of_wipe (own ε) : Fr own (wipe own ε) ε := fun j hj => wipe_ne hj
theorem wipe_wipe2 (own ε) : wipe own (wipe own ε) = wipe own ε := wipe_of_fr (fr_of_wipe own ε)
theorem unwipe_eq {own ε1 ε5} (h : Fr own ε5 ε1) : unwipe own ε1 ε5 = rez own ε1 := by
  funext j
  cases hj : own.contains j
  · simp only [unwipe, rez, hj]; exact h j hj
  · simp only [unwipe, rez, hj, if_true]
theorem lcIt_eq {α : Type} {stp : D → Env → Res (Option O)} {own ε0} (enc : α → D) (g : α → Option O) : ∀ (xs : List α) (ε : Env), Fr own ε ε0 →
    (∀ x ∈ xs, ∃ ε', stp (enc x) (wipe own ε0) = .ok (g x) ε' ∧ Fr own ε' ε0) → ∃ ε', lcIt (fun x ε => stp x (wipe own ε)) (xs.map enc) ε = .ok (xs.filterMap g) ε' ∧ Fr own ε' ε0
  | [], ε, hf, _ => ⟨ε, rfl, hf⟩
  | x :: xs, ε, hf, h => by
    obtain ⟨ε1, h1, h2⟩ := h x List.mem_cons_self
    obtain ⟨ε2, h3, h4⟩ := lcIt_eq (own := own) (ε0 := ε0) (stp := stp) enc g xs ε1 h2 fun y hy => h y (List.mem_cons_of_mem _ hy)
    refine ⟨ε2, ?_, h4⟩
    rw [List.map_cons, lcIt, wipe_of_fr hf, h1]
    simp only [h3]
    cases e : g x <;> simp [List.filterMap_cons, e]
/-- a comprehension over typed items that changes nothing -/
theorem lc_eq {α : Type} {cl sg e tg it ifs own ε ε1} (enc : α → D) (xs : List α) (g : α → Option O) (hit : evIt cl sg it ε = .ok (xs.map enc) ε1) (hl : xs.length ≤ 16777216)
    (hb : ∀ x ∈ xs, ∃ ε', lcB cl sg tg ifs e (enc x) (wipe own ε1) = .ok (g x) ε' ∧ Fr own ε' ε1) :
    evE cl sg (.lc e tg it ifs own) ε = .ok (mk .ls .lst (xs.filterMap g)) (rez own ε1) := by
  obtain ⟨ε', h1, h2⟩ := lcIt_eq (own := own) (ε0 := ε1) (stp := lcB cl sg tg ifs e) enc g xs (wipe own ε1) (fr_of_wipe own ε1) hb
  rw [evE_lc, hit, bind_ok, if_neg (by simpa using hl), h1, bind_ok, unwipe_eq h2]
/-- one that maps to plain data -/
theorem lc_map {α : Type} {cl sg e tg it own ε ε1} (enc : α → D) (xs : List α) (g : α → D) (hit : evIt cl sg it ε = .ok (xs.map enc) ε1) (hl : xs.length ≤ 16777216)
    (hb : ∀ x ∈ xs, ∃ ε', lcB cl sg tg [] e (enc x) (wipe own ε1) = .ok (some (.im (g x))) ε' ∧ Fr own ε' ε1) :
    evE cl sg (.lc e tg it [] own) ε = .ok (.ls (xs.map g)) (rez own ε1) := by
  rw [lc_eq enc xs (fun x => some (.im (g x))) hit hl hb]
  congr 1
  have : xs.filterMap (fun x => some (O.im (g x))) = (xs.map g).map O.im := by induction xs <;> simp_all
  rw [this, mk_ims]
/-- one that keeps some -/
theorem lc_filter {α : Type} {cl sg e q tg it own ε ε1} (enc : α → D) (xs : List α) (p : α → Bool) (g : α → D) (hit : evIt cl sg it ε = .ok (xs.map enc) ε1) (hl : xs.length ≤ 16777216)
    (hb : ∀ x ∈ xs, ∃ ε', lcB cl sg tg [q] e (enc x) (wipe own ε1) = .ok (if p x then some (.im (g x)) else none) ε' ∧ Fr own ε' ε1) :
    evE cl sg (.lc e tg it [q] own) ε = .ok (.ls ((xs.filter p).map g)) (rez own ε1) := by
  rw [lc_eq enc xs (fun x => if p x then some (.im (g x)) else none) hit hl hb]
  congr 1
  have : xs.filterMap (fun x => if p x then some (O.im (g x)) else none) = ((xs.filter p).map g).map O.im := by
    clear hit hl hb
    induction xs with
    | nil => rfl
    | cons x xs ih => rw [List.filterMap_cons, List.filter_cons]; cases p x <;> simp [ih]
  rw [this, mk_ims]
/-- a comprehension whose items change the world around (a generator, say), an invariant told -/
theorem lcIt_inv {α : Type} {stp : D → Env → Res (Option O)} {own} (enc : α → D) (I : List α → List O → Env → Prop)
    (hs : ∀ done x os ε, I done os ε → ∃ r ε', stp (enc x) (wipe own ε) = .ok r ε' ∧ I (done ++ [x]) (os ++ r.toList) ε') : ∀ (xs done : List α) (os : List O) (ε : Env), I done os ε →
    ∃ os' ε', lcIt (fun x ε => stp x (wipe own ε)) (xs.map enc) ε = .ok os' ε' ∧ I (done ++ xs) (os ++ os') ε'
  | [], done, os, ε, h => ⟨[], ε, rfl, by simpa using h⟩
  | x :: xs, done, os, ε, h => by
    obtain ⟨r, ε1, h1, h2⟩ := hs done x os ε h
    obtain ⟨os', ε2, h3, h4⟩ := lcIt_inv (own := own) (stp := stp) enc I hs xs (done ++ [x]) _ ε1 h2
    refine ⟨r.toList ++ os', ε2, ?_, by simpa using h4⟩
    rw [List.map_cons, lcIt, h1]
    simp only [h3]
    cases r <;> simp
theorem lcIt_inv2 {α : Type} {stp : D → Env → Res (Option O)} {own} (enc : α → D) (I : List α → List O → Env → Prop) (all : List α)
    (hs : ∀ done x rest os ε, done ++ x :: rest = all → I done os ε → ∃ r ε', stp (enc x) (wipe own ε) = .ok r ε' ∧ I (done ++ [x]) (os ++ r.toList) ε') : ∀ (xs done : List α) (os : List O) (ε : Env), done ++ xs = all → I done os ε →
    ∃ os' ε', lcIt (fun x ε => stp x (wipe own ε)) (xs.map enc) ε = .ok os' ε' ∧ I (done ++ xs) (os ++ os') ε'
  | [], done, os, ε, _, h => ⟨[], ε, rfl, by simpa using h⟩
  | x :: xs, done, os, ε, e, h => by
    obtain ⟨r, ε1, h1, h2⟩ := hs done x xs os ε e h
    obtain ⟨os', ε2, h3, h4⟩ := lcIt_inv2 (own := own) (stp := stp) enc I all hs xs (done ++ [x]) _ ε1 (by simpa using e) h2
    refine ⟨r.toList ++ os', ε2, ?_, by simpa using h4⟩
    rw [List.map_cons, lcIt, h1]
    simp only [h3]
    cases r <;> simp
theorem lc_inv {α : Type} {cl sg e tg it ifs own ε ε1} (enc : α → D) (xs : List α) (hit : evIt cl sg it ε = .ok (xs.map enc) ε1) (hl : xs.length ≤ 16777216)
    (I : List α → List O → Env → Prop) (h0 : I [] [] (wipe own ε1))
    (hs : ∀ done x rest os ε, done ++ x :: rest = xs → I done os ε → ∃ r ε', lcB cl sg tg ifs e (enc x) (wipe own ε) = .ok r ε' ∧ I (done ++ [x]) (os ++ r.toList) ε') :
    ∃ os ε', evE cl sg (.lc e tg it ifs own) ε = .ok (mk .ls .lst os) (unwipe own ε1 ε') ∧ I xs os ε' := by
  obtain ⟨os', ε', h1, h2⟩ := lcIt_inv2 (own := own) (stp := lcB cl sg tg ifs e) enc I xs hs xs [] [] (wipe own ε1) rfl h0
  refine ⟨os', ε', ?_, by simpa using h2⟩
  rw [evE_lc, hit, bind_ok, if_neg (by simpa using hl), h1, bind_ok]
theorem unwipe_ne {own ε0 ε j} (h : own.contains j = false) : unwipe own ε0 ε j = ε j := by simp only [unwipe, h]; rfl
theorem freeze_ne {bs ε j} (h : bs.contains j = false) : freeze bs ε j = ε j := by simp only [freeze, h]; rfl
theorem froz_in {m ε j} (h : m.contains j = true) : froz m ε j = ε j := by simp only [froz, h]; rfl
theorem froz_ne {m ε j} (h : m.contains j = false) : froz m ε j = (ε j).map (fun o => .im o.er) := by simp only [froz, h]; rfl
theorem froz_some {m ε j o} (h : m.contains j = false) (e : ε j = some o) : froz m ε j = some (.im o.er) := by rw [froz_ne h, e]; rfl
theorem unfroz_in {m ε ε1 j} (h : m.contains j = true) : unfroz m ε ε1 j = ε1 j := by simp only [unfroz, h]; rfl
theorem unfroz_ne {m ε ε1 j} (h : m.contains j = false) : unfroz m ε ε1 j = ε j := by simp only [unfroz, h]; rfl
theorem clr_same {i ε} : clr i ε i = none := by simp [clr]
theorem clr_ne {i j ε} (h : j ≠ i) : clr i ε j = ε j := by simp [clr, h]
/-! ### calls -/
theorem callN_succ {T : Tab} {n f : Nat} {args : List O} {fd : FnDef} (h : T f = some fd) (hl : args.length = fd.ps) :
    callN T (n + 1) f args = outOf fd.mp (evSs (callN T n) T.sg fd.mp fd.body fun i => args[i]?) := by rw [callN, h]; simp only [hl, if_true]
def outF (o : O) (r : Option (List O)) : COut := match r with
  | some fin => .ret o fin
  | none => .bad
def outX (c : Nat) (v : D) (r : Option (List O)) : COut := match r with
  | some fin => .exc c v fin
  | none => .bad
@[simp] theorem outF_some (o fin) : outF o (some fin) = .ret o fin := id rfl
@[simp] theorem outX_some (c v fin) : outX c v (some fin) = .exc c v fin := id rfl
@[simp] theorem outOf_next (mp ε) : outOf mp (.ok .next ε) = outF (.im .non) (finals ε mp) := id rfl
@[simp] theorem outOf_ret (mp o ε) : outOf mp (.ok (.ret o) ε) = outF o (finals ε mp) := id rfl
@[simp] theorem outOf_exc (mp c v ε) : outOf mp (.exc c v ε) = outX c v (finals ε mp) := id rfl
@[simp] theorem finals_nil (ε) : finals ε [] = some [] := id rfl
theorem finals_one {ε i o} (h : ε i = some o) : finals ε [i] = some [o] := by simp [finals, h]
theorem sg_of {T : Tab} {f : Nat} {fd : FnDef} (h : T f = some fd) : T.sg f = fd.mp := by simp [Tab.sg, h]
/-- handles as plain arguments: what they show, those that are one's own -/
inductive Shows (ε : Env) : List Hn → List D → List Nat → Prop where
  | nil : Shows ε [] [] []
  | val {o hs ds bs} : Shows ε hs ds bs → Shows ε (.val o :: hs) (o.er :: ds) bs
  | im {i d hs ds bs} : ε i = some (.im d) → Shows ε hs ds bs → Shows ε (.slot i :: hs) (d :: ds) bs
  | ls {i xs hs ds bs} : ε i = some (.ls xs) → Shows ε hs ds bs → Shows ε (.slot i :: hs) (.lst xs :: ds) (i :: bs)
theorem Shows.args {ε hs ds bs} (h : Shows ε hs ds bs) : ∀ k, callArgs ε [] k hs = some (ds.map O.im, [], bs, ε) := by
  induction h with
  | nil => intro k; rfl
  | val _ ih => intro k; simp [callArgs, ih]
  | im h _ ih => intro k; simp [callArgs, ih, rd, h]
  | ls h _ ih => intro k; simp [callArgs, ih, rd, h]
theorem Shows.args0 {ε hs ds bs} (h : Shows ε hs ds bs) : ∀ k, callArgs ε [0] (k + 1) hs = some (ds.map O.im, [], bs, ε) := by
  induction h with
  | nil => intro k; rfl
  | val _ ih => intro k; simp [callArgs, ih]
  | im h _ ih => intro k; simp [callArgs, ih, rd, h]
  | ls h _ ih => intro k; simp [callArgs, ih, rd, h]
theorem doCall_mut {cl : Nat → List O → COut} {sg f i hs ε o0 ds o g'} (hsg : sg f = [0]) (hi : ε i = some o0) (h : Shows ε hs ds []) (hc : cl f (o0 :: ds.map O.im) = .ret o [g']) :
    doCall cl sg f (.slot i :: hs) ε = .ok o (up ε i g') := by
  unfold doCall
  rw [hsg, callArgs]
  simp [hi, h.args0 0, okArgs, hc, ended, ups]
def fzIf (b : Bool) (bs : List Nat) (ε : Env) : Env := if b then ε else freeze bs ε
theorem doCall_ret {cl : Nat → List O → COut} {sg f hs ε ds bs o} (hsg : sg f = []) (h : Shows ε hs ds bs) (hc : cl f (ds.map O.im) = .ret o []) : doCall cl sg f hs ε = .ok o (fzIf (bs.isEmpty || o.flat) bs ε) := by
  unfold doCall
  rw [hsg, h.args 0]
  simp only [okArgs, if_true, hc, ended, ups, O.flats, Bool.and_true, fzIf]
  split <;> simp_all
theorem doCall_exc {cl : Nat → List O → COut} {sg f hs ε ds bs c v} (hsg : sg f = []) (h : Shows ε hs ds bs) (hc : cl f (ds.map O.im) = .exc c v []) : doCall cl sg f hs ε = .exc c v (fzIf (bs.isEmpty || v.flat) bs ε) := by
  unfold doCall
  rw [hsg, h.args 0]
  simp only [okArgs, if_true, hc, ended, ups, O.flats, Bool.and_true, fzIf]
  split <;> simp_all
@[simp] theorem fzIf_t (bs ε) : fzIf true bs ε = ε := id rfl
@[simp] theorem fzIf_nil (b ε) : fzIf b [] ε = ε := by
  cases b
  · funext j; simp [fzIf, freeze]
  · rfl
end Ev
end
section
set_option linter.all false
set_option maxRecDepth 100000
set_option maxHeartbeats 4000000
/-! Built-in operations on typed data. -/
namespace Ev
open PySem
def dn (n : Nat) : D := .int n
def pD (p : Nat × Nat) : D := .tup [.int p.1, .int p.2]
def lD (xs : List Nat) : D := .lst (xs.map dn)
def oD : Option Nat → D
  | none => .non
  | some k => .int k
@[simp] theorem dn_eq (n : Nat) : dn n = .int n := id rfl
@[simp] theorem oD_none : oD none = .non := id rfl
@[simp] theorem oD_some (k : Nat) : oD (some k) = .int k := id rfl
theorem rngD_zero (n : Nat) : rngD 0 n = (List.range n).map dn := by
  unfold rngD; apply List.map_congr_left; intro i _; simp
theorem rngD_nat (a n : Nat) : rngD a n = (List.range' a n).map dn := by
  unfold rngD; rw [List.range'_eq_map_range, List.map_map]; apply List.map_congr_left; intro i _; simp
/-! places -/
@[simp] theorem atI_nat {α : Type} (xs : List α) (n : Nat) : L2.atI xs (n : Int) = xs[n]? := by
  unfold L2.atI L2.ixN
  by_cases h : n < xs.length
  · have : (n : Int) < xs.length := by omega
    simp [this]
  · have : ¬ (n : Int) < xs.length := by omega
    simp [this]; omega
@[simp] theorem atI_0 {α : Type} (xs : List α) : L2.atI xs 0 = xs[0]? := atI_nat xs 0
@[simp] theorem atI_1 {α : Type} (xs : List α) : L2.atI xs 1 = xs[1]? := atI_nat xs 1
@[simp] theorem atI_2 {α : Type} (xs : List α) : L2.atI xs 2 = xs[2]? := atI_nat xs 2
@[simp] theorem atI_3 {α : Type} (xs : List α) : L2.atI xs 3 = xs[3]? := atI_nat xs 3
@[simp] theorem atI_4 {α : Type} (xs : List α) : L2.atI xs 4 = xs[4]? := atI_nat xs 4
@[simp] theorem atI_5 {α : Type} (xs : List α) : L2.atI xs 5 = xs[5]? := atI_nat xs 5
@[simp] theorem atI_6 {α : Type} (xs : List α) : L2.atI xs 6 = xs[6]? := atI_nat xs 6
@[simp] theorem atI_7 {α : Type} (xs : List α) : L2.atI xs 7 = xs[7]? := atI_nat xs 7
@[simp] theorem atI_8 {α : Type} (xs : List α) : L2.atI xs 8 = xs[8]? := atI_nat xs 8
@[simp] theorem atI_9 {α : Type} (xs : List α) : L2.atI xs 9 = xs[9]? := atI_nat xs 9
@[simp] theorem atI_10 {α : Type} (xs : List α) : L2.atI xs 10 = xs[10]? := atI_nat xs 10
@[simp] theorem atI_m1 {α : Type} (xs : List α) : L2.atI xs (-1) = xs.getLast? := by
  unfold L2.atI L2.ixN
  cases xs with
  | nil => simp
  | cons x xs =>
    have e : (-1 + ((x :: xs).length : Int)).toNat = xs.length := by simp; omega
    have : -((x :: xs).length : Int) ≤ -1 := by simp; omega
    simp only [show ¬ (0 : Int) ≤ -1 by decide, if_false, this, if_true, Option.bind_some, e]
    rw [List.getLast?_eq_getElem?]; simp
@[simp] theorem ixN_nat (n k : Nat) : ixN n (k : Int) = if k < n then some k else none := by
  unfold ixN L2.ixN
  by_cases h : k < n
  · have : (k : Int) < n := by omega
    simp [h]
  · have : ¬ (k : Int) < n := by omega
    simp [h]
@[simp] theorem ixN_0 (n : Nat) : ixN n 0 = if 0 < n then some 0 else none := ixN_nat n 0
@[simp] theorem ixN_1 (n : Nat) : ixN n 1 = if 1 < n then some 1 else none := ixN_nat n 1
@[simp] theorem ixN_2 (n : Nat) : ixN n 2 = if 2 < n then some 2 else none := ixN_nat n 2
@[simp] theorem ixN_3 (n : Nat) : ixN n 3 = if 3 < n then some 3 else none := ixN_nat n 3
@[simp] theorem ixN_4 (n : Nat) : ixN n 4 = if 4 < n then some 4 else none := ixN_nat n 4
@[simp] theorem ixN_5 (n : Nat) : ixN n 5 = if 5 < n then some 5 else none := ixN_nat n 5
/-! prims on numbers -/
@[simp] theorem pr_add (i j) : prim .add [.int i, .int j] = some (.im (.int (i + j))) := id rfl
@[simp] theorem pr_sub (i j) : prim .sub [.int i, .int j] = some (.im (.int (i - j))) := id rfl
theorem pr_mul (i j) (h : (big i && big j) = true) : prim .mul [.int i, .int j] = some (.im (.int (i * j))) := by
  show (if big i && big j then some (O.im (.int (i * j))) else none) = _
  rw [h]; rfl
theorem pr_mod (i j) (h : 0 < j) : prim .mod [.int i, .int j] = some (.im (.int (i % j))) := by
  show (if 0 < j then some (O.im (.int (i % j))) else none) = _
  rw [if_pos h]
theorem pr_fdiv (i j) (h : 0 < j) (h' : j.natAbs.log2 < 9000) : prim .fdiv [.int i, .int j] = some (.im (.int (i / j))) := by
  show (if 0 < j ∧ j.natAbs.log2 < 9000 then some (O.im (.int (i / j))) else none) = _
  rw [if_pos ⟨h, h'⟩]
theorem pr_pow (i j) (h : 0 ≤ j ∧ (i.natAbs.log2 + 1) * j.toNat ≤ 100000) : prim .pow [.int i, .int j] = some (.im (.int (i ^ j.toNat))) := by
  show (if 0 ≤ j ∧ (i.natAbs.log2 + 1) * j.toNat ≤ 100000 then some (O.im (.int (i ^ j.toNat))) else none) = _
  rw [if_pos h]
@[simp] theorem pr_neg (i) : prim .neg [.int i] = some (.im (.int (-i))) := id rfl
@[simp] theorem pr_lt (i j) : prim .lt [.int i, .int j] = some (.im (.bl (decide (i < j)))) := id rfl
@[simp] theorem pr_le (i j) : prim .le [.int i, .int j] = some (.im (.bl (decide (i ≤ j)))) := id rfl
@[simp] theorem pr_gt (i j) : prim .gt [.int i, .int j] = some (.im (.bl (decide (j < i)))) := id rfl
@[simp] theorem pr_ge (i j) : prim .ge [.int i, .int j] = some (.im (.bl (decide (j ≤ i)))) := id rfl
@[simp] theorem okD_int (i n) : D.okD (.int i) n = true := by cases n <;> rfl
@[simp] theorem okD_non (n) : D.okD .non n = true := by cases n <;> rfl
@[simp] theorem okD_bl (b n) : D.okD (.bl b) n = true := by cases n <;> rfl
@[simp] theorem okD_str (s n) : D.okD (.str s) n = s.cps.all (· < 0x110000) := by cases n <;> rfl
@[simp] theorem okD_lst (xs n) : D.okD (.lst xs) n = D.okDs xs n := by cases n <;> rfl
@[simp] theorem okD_tup (xs n) : D.okD (.tup xs) n = D.okDs xs n := by cases n <;> rfl
theorem okDs_eq (xs : List D) (n : Nat) : D.okDs xs n = (decide (0 < n) && xs.all fun d => D.okD d (n - 1)) := by
  induction xs with
  | nil => simp [D.okDs]
  | cons x xs ih => rw [D.okDs, ih]; cases decide (0 < n) <;> simp
@[simp] theorem eqv_int (i j) : D.eqv (.int i) (.int j) = decide (i = j) := id rfl
@[simp] theorem eqv_str (i j) : D.eqv (.str i) (.str j) = decide (i = j) := id rfl
@[simp] theorem eqv_non : D.eqv .non .non = true := id rfl
@[simp] theorem eqv_tup (xs ys) : D.eqv (.tup xs) (.tup ys) = D.eqvs xs ys := id rfl
@[simp] theorem eqv_lst (xs ys) : D.eqv (.lst xs) (.lst ys) = D.eqvs xs ys := id rfl
@[simp] theorem eqvs_nil : D.eqvs [] [] = true := id rfl
@[simp] theorem eqvs_nil_cons (y ys) : D.eqvs [] (y :: ys) = false := id rfl
@[simp] theorem eqvs_cons_nil (y ys) : D.eqvs (y :: ys) [] = false := id rfl
@[simp] theorem eqvs_cons (x xs y ys) : D.eqvs (x :: xs) (y :: ys) = (D.eqv x y && D.eqvs xs ys) := id rfl
mutual
theorem eqv_refl : ∀ (d : D) (n : Nat), D.okD d n = true → D.eqv d d = true
  | .non, _, _ => rfl
  | .bl b, _, _ => by simp [D.eqv]
  | .int i, _, _ => by simp
  | .str s, _, _ => by simp
  | .lst xs, n, h => by simp at h; simpa using eqvs_refl xs n h
  | .tup xs, n, h => by simp at h; simpa using eqvs_refl xs n h
  | .dct _, n, h => by simp [D.okD] at h
  | .scr _, n, h => by simp [D.okD] at h
  | .fn _, n, h => by simp [D.okD] at h
  | .ty _, n, h => by simp [D.okD] at h
  | .cls _, n, h => by simp [D.okD] at h
  | .exc _ _, n, h => by simp [D.okD] at h
theorem eqvs_refl : ∀ (xs : List D) (n : Nat), D.okDs xs n = true → D.eqvs xs xs = true
  | [], _, _ => rfl
  | x :: xs, n, h => by
    rw [D.okDs, Bool.and_eq_true, Bool.and_eq_true] at h
    rw [eqvs_cons, eqv_refl x _ h.2.1, eqvs_refl xs _ h.2.2]; rfl
end
theorem eqvs_map {α : Type} (f : α → D) (hf : ∀ a b, D.eqv (f a) (f b) = true ↔ a = b) : ∀ xs ys : List α, D.eqvs (xs.map f) (ys.map f) = true ↔ xs = ys
  | [], [] => by simp
  | [], y :: ys => by simp
  | x :: xs, [] => by simp
  | x :: xs, y :: ys => by simp [hf, eqvs_map f hf xs ys]
theorem eqv_dn (a b : Nat) : D.eqv (dn a) (dn b) = true ↔ a = b := by simp; omega
theorem eqv_pD (a b : Nat × Nat) : D.eqv (pD a) (pD b) = true ↔ a = b := by
  obtain ⟨a1, a2⟩ := a; obtain ⟨b1, b2⟩ := b; simp [pD]; omega
theorem eqv_lD (a b : List Nat) : D.eqv (lD a) (lD b) = true ↔ a = b := by simpa [lD] using eqvs_map dn eqv_dn a b
theorem bool_of_iff {b : Bool} {p : Prop} [Decidable p] (h : b = true ↔ p) : b = decide p := by cases b <;> simp_all
@[simp] theorem okD_map_dn (xs : List Nat) : (xs.map dn).all (fun d => D.okD d n) = true := by simp
@[simp] theorem pr_eq_int (i j) : prim .eq [.int i, .int j] = some (.im (.bl (decide (i = j)))) := id rfl
@[simp] theorem pr_ne_int (i j) : prim .ne [.int i, .int j] = some (.im (.bl (!decide (i = j)))) := id rfl
theorem pr_eq (d e) (h : (D.okD d 60 && D.okD e 60) = true) : prim .eq [d, e] = some (.im (.bl (D.eqv d e))) := by
  show (if D.okD d 60 && D.okD e 60 then some (O.im (.bl (D.eqv d e))) else p_eq0 d e) = _
  rw [h]; rfl
theorem pr_ne (d e) (h : (D.okD d 60 && D.okD e 60) = true) : prim .ne [d, e] = some (.im (.bl (!D.eqv d e))) := by
  show (if D.okD d 60 && D.okD e 60 then some (O.im (.bl (!D.eqv d e))) else p_ne0 d e) = _
  rw [h]; rfl
@[simp] theorem pr_eq_nil (xs) : prim .eq [.lst xs, .lst []] = some (.im (.bl xs.isEmpty)) := by
  show (if D.okD (.lst xs) 60 && D.okD (.lst []) 60 then some (O.im (.bl (D.eqv (.lst xs) (.lst [])))) else some (.im (.bl xs.isEmpty))) = _
  have : D.eqv (.lst xs) (.lst []) = xs.isEmpty := by cases xs <;> rfl
  rw [this]; split <;> rfl
@[simp] theorem pr_ne_nil (xs) : prim .ne [.lst xs, .lst []] = some (.im (.bl (!xs.isEmpty))) := by
  show (if D.okD (.lst xs) 60 && D.okD (.lst []) 60 then some (O.im (.bl (!D.eqv (.lst xs) (.lst [])))) else some (.im (.bl (!xs.isEmpty)))) = _
  have : D.eqv (.lst xs) (.lst []) = xs.isEmpty := by cases xs <;> rfl
  rw [this]; split <;> rfl
@[simp] theorem pr_is_non (d) : prim .is_ [d, .non] = some (.im (.bl d.isN)) := by unfold prim p_is_; simp
@[simp] theorem pr_is_bl (d b) : prim .is_ [d, .bl b] = some (.im (.bl (d.isB b))) := by unfold prim p_is_; simp
@[simp] theorem pr_isn_non (d) : prim .isn [d, .non] = some (.im (.bl (!d.isN))) := by unfold prim p_isn; simp
@[simp] theorem isN_non : D.isN .non = true := id rfl
@[simp] theorem isN_int (i) : D.isN (.int i) = false := id rfl
@[simp] theorem isN_bl (i) : D.isN (.bl i) = false := id rfl
@[simp] theorem isN_lst (i) : D.isN (.lst i) = false := id rfl
@[simp] theorem isN_tup (i) : D.isN (.tup i) = false := id rfl
@[simp] theorem isN_str (i) : D.isN (.str i) = false := id rfl
@[simp] theorem isN_exc (c v) : D.isN (.exc c v) = false := id rfl
@[simp] theorem isN_oD (o) : D.isN (oD o) = o.isNone := by cases o <;> rfl
theorem any_dn (n : Nat) (xs : List Nat) : ((xs.map dn).any fun z => D.eqv z (.int n)) = decide (n ∈ xs) := by
  apply bool_of_iff
  simp only [List.any_map, List.any_eq_true, Function.comp]
  constructor
  · rintro ⟨x, hx, h⟩; rw [dn_eq, eqv_int, decide_eq_true_eq] at h; rwa [← show x = n by omega]
  · intro h; exact ⟨n, h, by simp⟩
theorem pr_in_dn (n : Nat) (xs : List Nat) : prim .in_ [.int n, .lst (xs.map dn)] = some (.im (.bl (decide (n ∈ xs)))) := by
  show (if D.okD (.int n) 60 && D.okDs (xs.map dn) 60 then some (O.im (.bl ((xs.map dn).any fun z => D.eqv z (.int n)))) else none) = _
  rw [any_dn, okDs_eq]; simp
theorem pr_nin_dn (n : Nat) (xs : List Nat) : prim .nin [.int n, .lst (xs.map dn)] = some (.im (.bl (!decide (n ∈ xs)))) := by
  show (if D.okD (.int n) 60 && D.okDs (xs.map dn) 60 then some (O.im (.bl (!(xs.map dn).any fun z => D.eqv z (.int n)))) else none) = _
  rw [any_dn, okDs_eq]; simp
theorem any_lD (n : List Nat) (xs : List (List Nat)) : ((xs.map lD).any fun z => D.eqv z (lD n)) = decide (n ∈ xs) := by
  apply bool_of_iff
  simp only [List.any_map, List.any_eq_true, Function.comp]
  constructor
  · rintro ⟨x, hx, h⟩; rw [eqv_lD] at h; rwa [← h]
  · intro h; exact ⟨n, h, (eqv_lD _ _).mpr rfl⟩
@[simp] theorem okD_lD (x : List Nat) (k : Nat) : D.okD (lD x) (k + 1) = true := by simp [lD, okDs_eq]
theorem pr_nin_lD (n : List Nat) (xs : List (List Nat)) : prim .nin [lD n, .lst (xs.map lD)] = some (.im (.bl (!decide (n ∈ xs)))) := by
  show (if D.okD (lD n) 60 && D.okDs (xs.map lD) 60 then some (O.im (.bl (!(xs.map lD).any fun z => D.eqv z (lD n)))) else none) = _
  rw [any_lD, okDs_eq]; simp
@[simp] theorem pr_in_tup2 (n a b : Nat) : prim .in_ [.int n, .tup [.int a, .int b]] = some (.im (.bl (decide (n = a ∨ n = b)))) := by
  show some (O.im (.bl (decide ((a : Int) = n) || (decide ((b : Int) = n) || false)))) = _
  congr 3
  apply bool_of_iff; simp; omega
@[simp] theorem pr_idx_lst (xs i) : prim .idx [.lst xs, .int i] = (L2.atI xs i).map O.im := by
  show (match L2.atI xs i with | some d => some (O.im d) | none => none) = _
  cases L2.atI xs i <;> rfl
@[simp] theorem pr_idx_tup (xs i) : prim .idx [.tup xs, .int i] = (L2.atI xs i).map O.im := by
  show (match L2.atI xs i with | some d => some (O.im d) | none => none) = _
  cases L2.atI xs i <;> rfl
@[simp] theorem pr_idx_scr (xs i) : prim .idx [.scr xs, .int i] = (L2.atI xs i).map (fun k => O.im (.int k)) := by
  show (match L2.atI xs i with | some d => some (O.im (.int d)) | none => none) = _
  cases L2.atI xs i <;> rfl
@[simp] theorem pr_len_lst (xs) : prim .len [.lst xs] = some (.im (.int xs.length)) := id rfl
@[simp] theorem pr_len_tup (xs) : prim .len [.tup xs] = some (.im (.int xs.length)) := id rfl
@[simp] theorem pr_len_scr (xs) : prim .len [.scr xs] = some (.im (.int xs.length)) := id rfl
@[simp] theorem pr_int1 (i) : prim .int1 [.int i] = some (.im (.int i)) := id rfl
@[simp] theorem pr_max2 (i j) : prim .max2 [.int i, .int j] = some (.im (.int (max i j))) := by
  show some (O.im (.int (if j > i then j else i))) = _
  congr 3; simp only [Int.max_def]; split <;> split <;> omega
@[simp] theorem pr_min2 (i j) : prim .min2 [.int i, .int j] = some (.im (.int (min i j))) := by
  show some (O.im (.int (if j < i then j else i))) = _
  congr 3; simp only [Int.min_def]; split <;> split <;> omega
@[simp] theorem cast_inj' (a b : Nat) : ((a : Int) = (b : Int)) = (a = b) := by simp only [eq_iff_iff]; omega
@[simp] theorem cast_lt' (a b : Nat) : ((a : Int) < (b : Int)) = (a < b) := by simp only [eq_iff_iff]; omega
@[simp] theorem cast_le' (a b : Nat) : ((a : Int) ≤ (b : Int)) = (a ≤ b) := by simp only [eq_iff_iff]; omega
@[simp] theorem max_cast (a b : Nat) : max (a : Int) (b : Int) = ((max a b : Nat) : Int) := by omega
@[simp] theorem min_cast (a b : Nat) : min (a : Int) (b : Int) = ((min a b : Nat) : Int) := by omega
theorem dints_dn (xs : List Nat) : dints (xs.map dn) = some (xs.map fun (n : Nat) => (n : Int)) := by
  induction xs with
  | nil => rfl
  | cons x xs ih => simp [dints, ih]
theorem foldl_max (xs : List Nat) (a : Nat) : (xs.map fun (n : Nat) => (n : Int)).foldl (fun m y => if y > m then y else m) (a : Int) = ((xs.foldl max a : Nat) : Int) := by
  induction xs generalizing a with
  | nil => rfl
  | cons x xs ih =>
    rw [List.map_cons, List.foldl_cons, List.foldl_cons, ← ih]
    congr 1; simp only [Nat.max_def]; split <;> split <;> omega
theorem foldl_min (xs : List Nat) (a : Nat) : (xs.map fun (n : Nat) => (n : Int)).foldl (fun m y => if y < m then y else m) (a : Int) = ((xs.foldl min a : Nat) : Int) := by
  induction xs generalizing a with
  | nil => rfl
  | cons x xs ih =>
    rw [List.map_cons, List.foldl_cons, List.foldl_cons, ← ih]
    congr 1; simp only [Nat.min_def]; split <;> split <;> omega
theorem pr_max1 (xs : List Nat) : prim .max1 [.lst (xs.map dn)] = xs.max?.map fun k => .im (.int k) := by
  show (match dints (xs.map dn) with | some ns => (maxL ns).map fun m => O.im (.int m) | none => none) = _
  rw [dints_dn]
  cases xs with
  | nil => rfl
  | cons x xs => simp only [List.map_cons, maxL, foldl_max, List.max?_cons', Option.map_some]
theorem pr_min1 (xs : List Nat) : prim .min1 [.lst (xs.map dn)] = xs.min?.map fun k => .im (.int k) := by
  show (match dints (xs.map dn) with | some ns => (minL ns).map fun m => O.im (.int m) | none => none) = _
  rw [dints_dn]
  cases xs with
  | nil => rfl
  | cons x xs => simp only [List.map_cons, minL, foldl_min, List.min?_cons', Option.map_some]
theorem sum_cast (xs : List Nat) : (xs.map fun (n : Nat) => (n : Int)).sum = (xs.sum : Nat) := by
  induction xs with
  | nil => rfl
  | cons x xs ih => simp [ih]
theorem pr_sum1 (xs : List Nat) : prim .sum1 [.lst (xs.map dn)] = some (.im (.int (xs.sum : Nat))) := by
  show (match dints (xs.map dn) with | some ns => some (O.im (.int ns.sum)) | none => none) = _
  rw [dints_dn]; simp [sum_cast]
@[simp] theorem pr_sum1_2 (a b : Int) : prim .sum1 [.tup [.int a, .int b]] = some (.im (.int (a + b))) := by
  show some (O.im (.int ([a, b].sum))) = _
  simp
theorem pr_lrng (n : Nat) (h : n ≤ 16777216) : prim .lrng [.int n] = some (.ls ((List.range n).map dn)) := by
  show (if 0 ≤ (n : Int) ∧ (n : Int) ≤ 16777216 then some (O.ls (rngD 0 (n : Int).toNat)) else none) = _
  rw [if_pos ⟨by omega, by omega⟩, Int.toNat_natCast, rngD_zero]
@[simp] theorem pr_add_lst (xs ys) (h : xs.length + ys.length ≤ 16777216) : prim .add [.lst xs, .lst ys] = some (.ls (xs ++ ys)) := by
  show (if xs.length + ys.length ≤ 16777216 then some (O.ls (xs ++ ys)) else none) = _
  rw [if_pos h]
theorem pr_mul_lst1 (d : D) (k : Nat) (h : k ≤ 16777216) : prim .mul [.lst [d], .int k] = some (.ls (List.replicate k d)) := by
  have hc : -(2 ^ 63) ≤ (k : Int) ∧ (k : Int) < 2 ^ 63 ∧ [d].length * (k : Int).toNat ≤ 16777216 := ⟨by omega, by omega, by simp; omega⟩
  have e : ∀ k : Nat, (List.replicate k [d]).flatten = List.replicate k d := fun k => by
    induction k with
    | zero => rfl
    | succ k ih => rw [List.replicate_succ, List.flatten_cons, ih]; rfl
  unfold prim p_mul
  simp only [hc, if_true, Int.toNat_natCast, e]
  simp; omega
/-! cuts -/
theorem pr_slc_from (xs) (k : Nat) : prim (.slc true false) [.lst xs, .int k] = some (.ls (xs.drop k)) := by
  show some (O.ls (cutD xs (some (k : Int)) none)) = _
  congr 2
  unfold cutD
  rw [HT.sIx_nat, HT.sIx_none]
  rcases Nat.le_total k xs.length with h | h
  · rw [Nat.min_eq_left h, List.take_of_length_le (by simp)]
  · rw [Nat.min_eq_right h, List.drop_of_length_le (Nat.le_refl _), List.drop_of_length_le h]; simp
theorem pr_slc_to (xs) (k : Nat) : prim (.slc false true) [.lst xs, .int k] = some (.ls (xs.take k)) := by
  show some (O.ls (cutD xs none (some (k : Int)))) = _
  congr 2
  unfold cutD
  rw [HT.sIx_nat, HT.sIx_none]
  simp only [List.drop_zero, Nat.sub_zero, show min 0 xs.length = 0 from by simp]
  rcases Nat.le_total k xs.length with h | h
  · rw [Nat.min_eq_left h]
  · rw [Nat.min_eq_right h, List.take_of_length_le (Nat.le_refl _), List.take_of_length_le h]
@[simp] theorem pr_slc_from_0 (xs) : prim (.slc true false) [.lst xs, .int 0] = some (.ls (xs.drop 0)) := pr_slc_from xs 0
@[simp] theorem pr_slc_from_1 (xs) : prim (.slc true false) [.lst xs, .int 1] = some (.ls (xs.drop 1)) := pr_slc_from xs 1
@[simp] theorem pr_slc_from_2 (xs) : prim (.slc true false) [.lst xs, .int 2] = some (.ls (xs.drop 2)) := pr_slc_from xs 2
@[simp] theorem pr_slc_from_3 (xs) : prim (.slc true false) [.lst xs, .int 3] = some (.ls (xs.drop 3)) := pr_slc_from xs 3
@[simp] theorem pr_slc_from_4 (xs) : prim (.slc true false) [.lst xs, .int 4] = some (.ls (xs.drop 4)) := pr_slc_from xs 4
@[simp] theorem pr_slc_to_0 (xs) : prim (.slc false true) [.lst xs, .int 0] = some (.ls (xs.take 0)) := pr_slc_to xs 0
@[simp] theorem pr_slc_to_1 (xs) : prim (.slc false true) [.lst xs, .int 1] = some (.ls (xs.take 1)) := pr_slc_to xs 1
@[simp] theorem pr_slc_to_2 (xs) : prim (.slc false true) [.lst xs, .int 2] = some (.ls (xs.take 2)) := pr_slc_to xs 2
@[simp] theorem pr_slc_to_3 (xs) : prim (.slc false true) [.lst xs, .int 3] = some (.ls (xs.take 3)) := pr_slc_to xs 3
@[simp] theorem pr_slc_to_4 (xs) : prim (.slc false true) [.lst xs, .int 4] = some (.ls (xs.take 4)) := pr_slc_to xs 4
/-! sorting -/
theorem al_int (i j) : W.alike (.int i) (.int j) = true := by simp only [W.alike]
theorem al_tup (i j) : W.alike (.tuple i) (.tuple j) = W.alikeAll i j := by simp only [W.alike]
theorem al_lst (i j) : W.alike (.list i) (.list j) = W.alikeAll i j := by simp only [W.alike]
theorem py_dn (xs : List Nat) : D.pys (xs.map dn) = (xs.map fun (n : Nat) => (n : Int)).map PyData.int := by
  induction xs with
  | nil => rfl
  | cons x xs ih => simp only [List.map_cons, D.pys, ih, dn_eq, D.py]
theorem sorted_typed {α : Type} (f : α → D) (le : α → α → Bool) (xs : List α) (hok : sortOk (xs.map f) = true) (hle : ∀ a b, W.dataLe false D.py (f a) (f b) = le a b) :
    prim .sorted1 [.lst (xs.map f)] = some (.ls ((xs.mergeSort le).map f)) := by
  show (if sortOk (xs.map f) then some (O.ls (sortD (xs.map f))) else none) = _
  rw [hok, if_pos rfl]
  congr 2
  unfold sortD
  exact (List.map_mergeSort (r := le) (s := W.dataLe false D.py) (f := f) (fun a _ b _ => (hle a b).symm)).symm
theorem pr_sorted_dn (xs : List Nat) : prim .sorted1 [.lst (xs.map dn)] = some (.ls (xs.mergeSort.map dn)) := by
  refine sorted_typed dn (fun a b => decide (a ≤ b)) xs ?_ ?_
  · unfold sortOk; simp [al_int, D.py]
  · intro a b
    have := congrFun (congrFun (W.dataLe_int (β := Nat) (fun (n : Nat) => (n : Int))) a) b
    rw [show W.dataLe false D.py (dn a) (dn b) = W.dataLe false (fun n : Nat => PyData.int (n : Int)) a b from rfl, this]
    simp
def leP (p q : Nat × Nat) : Bool := decide (p.1 < q.1 ∨ (p.1 = q.1 ∧ p.2 ≤ q.2))
theorem pr_sorted_pD (xs : List (Nat × Nat)) : prim .sorted1 [.lst (xs.map pD)] = some (.ls ((xs.mergeSort leP).map pD)) := by
  refine sorted_typed pD leP xs ?_ ?_
  · unfold sortOk; simp [al_int, al_tup, W.alikeAll, D.py, D.pys, pD, okDs_eq]
  · intro a b
    have := congrFun (congrFun (W.dataLe_ii (β := Nat × Nat) (fun p => (p.1 : Int)) (fun p => (p.2 : Int))) a) b
    rw [show W.dataLe false D.py (pD a) (pD b) = W.dataLe false (fun p : Nat × Nat => PyData.tuple [.int (p.1 : Int), .int (p.2 : Int)]) a b from by simp only [W.dataLe_eq, pD, D.py, D.pys], this]
    unfold leP
    rw [decide_eq_decide]; omega
theorem map_lt_cast : ∀ x y : List Nat, (x.map fun (n : Nat) => (n : Int)) < (y.map fun (n : Nat) => (n : Int)) ↔ x < y
  | [], [] => by simp
  | [], y :: ys => by simp
  | x :: xs, [] => by simp
  | x :: xs, y :: ys => by
    rw [List.map_cons, List.map_cons, List.cons_lt_cons_iff, List.cons_lt_cons_iff, map_lt_cast xs ys, Int.ofNat_lt, Int.ofNat_inj]
def leL (x y : List Nat) : Bool := decide (¬ y < x)
theorem pr_sorted_lD (xs : List (List Nat)) : prim .sorted1 [.lst (xs.map lD)] = some (.ls ((xs.mergeSort leL).map lD)) := by
  refine sorted_typed lD leL xs ?_ ?_
  · unfold sortOk
    have : ∀ x y : List Nat, W.alikeAll (D.pys (x.map dn)) (D.pys (y.map dn)) = true := fun x y => by rw [py_dn, py_dn]; exact W.alike_ints _ _
    simp [al_lst, D.py, lD, okDs_eq, this]
  · intro a b
    have := congrFun (congrFun (W.dataLe_rows (β := List Nat) (fun x => x.map fun (n : Nat) => (n : Int))) a) b
    rw [show W.dataLe false D.py (lD a) (lD b) = W.dataLe false (fun x : List Nat => PyData.list ((x.map fun (n : Nat) => (n : Int)).map .int)) a b from by simp only [W.dataLe_eq, lD, D.py, py_dn], this]
    unfold leL
    rw [decide_eq_decide, ← List.not_lt, map_lt_cast]
theorem dlsts_lD (xs : List (List Nat)) : dlsts (xs.map lD) = some (xs.flatten.map dn) := by
  induction xs with
  | nil => rfl
  | cons x xs ih =>
    show (match dlsts (xs.map lD) with | some r => some (x.map dn ++ r) | none => none) = _
    rw [ih]; simp
theorem pr_sum2_lD (xs : List (List Nat)) (hne : xs ≠ []) (hl : xs.flatten.length ≤ 16777216) : prim .sum2 [.lst (xs.map lD), .lst []] = some (.ls (xs.flatten.map dn)) := by
  cases xs with
  | nil => exact absurd rfl hne
  | cons x xs =>
    show (match dlsts (lD x :: xs.map lD) with | some ds => if ds.length ≤ 16777216 then some (O.ls ds) else none | none => none) = _
    rw [← List.map_cons, dlsts_lD]
    simp only [List.length_map, if_pos hl]
/-! flat -/
@[simp] theorem flat_im (d) : O.flat (.im d) = d.flat := by rw [O.flat]
@[simp] theorem flat_ls (d) : O.flat (.ls d) = D.flats d := by rw [O.flat]
@[simp] theorem dflat_int (i) : D.flat (.int i) = true := id rfl
@[simp] theorem dflat_bl (i) : D.flat (.bl i) = true := id rfl
@[simp] theorem dflat_non : D.flat .non = true := id rfl
@[simp] theorem dflat_str (s) : D.flat (.str s) = true := id rfl
@[simp] theorem dflat_tup (xs) : D.flat (.tup xs) = D.flats xs := id rfl
theorem dflats_eq (xs : List D) : D.flats xs = xs.all D.flat := by induction xs <;> simp_all [D.flats]
@[simp] theorem dflats_nil : D.flats [] = true := id rfl
@[simp] theorem dflats_cons (x xs) : D.flats (x :: xs) = (D.flat x && D.flats xs) := id rfl
@[simp] theorem isi_1 (d n) : prim .isi [d, .ty n] = (isTy n d).map fun b => .im (.bl b) := by
  have : p_isi [d, .ty n] = match isTy n d with | some b => some (.im (.bl b)) | none => none := by
    cases d <;> rfl
  show p_isi [d, .ty n] = _
  rw [this]; cases isTy n d <;> rfl
end Ev
end
section
set_option linter.all false
set_option maxRecDepth 100000
set_option maxHeartbeats 4000000
/-! What webs are: the defs of kinds. -/
namespace Ev
open PySem Gr
/-- data of a kind that isinstance tells -/
def D.nz : D → Bool
  | .non | .bl _ | .int _ | .str _ | .lst _ | .tup _ => true
  | _ => false
@[simp] theorem nz_non : D.nz .non = true := by rw [D.nz]
@[simp] theorem nz_bl (i) : D.nz (.bl i) = true := by rw [D.nz]
@[simp] theorem nz_int (i) : D.nz (.int i) = true := by rw [D.nz]
@[simp] theorem nz_str (i) : D.nz (.str i) = true := by rw [D.nz]
@[simp] theorem nz_lst (i) : D.nz (.lst i) = true := by rw [D.nz]
@[simp] theorem nz_tup (i) : D.nz (.tup i) = true := by rw [D.nz]
def D.isI : D → Bool
  | .int _ => true
  | _ => false
def D.isC : D → Bool
  | .int i => decide (0 ≤ i)
  | _ => false
def D.isB4 (m : Int) : D → Bool
  | .int i => decide (0 ≤ i) && decide (i < m)
  | _ => false
def D.isP (m : Int) : D → Bool
  | .tup [.int a, .int b] => decide (0 ≤ a) && decide (a < b) && decide (b < m)
  | _ => false
theorem isTy_int (i n) : isTy n (.int i) = tyB "int" n := rfl
theorem isTy_bl (i n) : isTy n (.bl i) = tyB "bool" n := rfl
theorem isTy_str (i n) : isTy n (.str i) = tyB "str" n := rfl
theorem isTy_lst (i n) : isTy n (.lst i) = tyB "list" n := rfl
theorem isTy_tup (i n) : isTy n (.tup i) = tyB "tuple" n := rfl
theorem isTy_non (n) : isTy n .non = tyB "NoneType" n := rfl
@[simp] theorem ii_ii (i) : isTy "int" (.int i) = some true := id rfl
@[simp] theorem ii_ib (i) : isTy "bool" (.int i) = some false := id rfl
@[simp] theorem ii_is (i) : isTy "str" (.int i) = some false := id rfl
@[simp] theorem ii_il (i) : isTy "list" (.int i) = some false := id rfl
@[simp] theorem ii_it (i) : isTy "tuple" (.int i) = some false := id rfl
@[simp] theorem ib_ii (i) : isTy "int" (.bl i) = some true := id rfl
@[simp] theorem ib_ib (i) : isTy "bool" (.bl i) = some true := id rfl
@[simp] theorem ib_is (i) : isTy "str" (.bl i) = some false := id rfl
@[simp] theorem ib_il (i) : isTy "list" (.bl i) = some false := id rfl
@[simp] theorem ib_it (i) : isTy "tuple" (.bl i) = some false := id rfl
@[simp] theorem is_ii (i) : isTy "int" (.str i) = some false := id rfl
@[simp] theorem is_ib (i) : isTy "bool" (.str i) = some false := id rfl
@[simp] theorem is_is (i) : isTy "str" (.str i) = some true := id rfl
@[simp] theorem is_il (i) : isTy "list" (.str i) = some false := id rfl
@[simp] theorem is_it (i) : isTy "tuple" (.str i) = some false := id rfl
@[simp] theorem il_ii (i) : isTy "int" (.lst i) = some false := id rfl
@[simp] theorem il_ib (i) : isTy "bool" (.lst i) = some false := id rfl
@[simp] theorem il_is (i) : isTy "str" (.lst i) = some false := id rfl
@[simp] theorem il_il (i) : isTy "list" (.lst i) = some true := id rfl
@[simp] theorem il_it (i) : isTy "tuple" (.lst i) = some false := id rfl
@[simp] theorem it_ii (i) : isTy "int" (.tup i) = some false := id rfl
@[simp] theorem it_ib (i) : isTy "bool" (.tup i) = some false := id rfl
@[simp] theorem it_is (i) : isTy "str" (.tup i) = some false := id rfl
@[simp] theorem it_il (i) : isTy "list" (.tup i) = some false := id rfl
@[simp] theorem it_it (i) : isTy "tuple" (.tup i) = some true := id rfl
@[simp] theorem in_ii : isTy "int" .non = some false := id rfl
@[simp] theorem in_ib : isTy "bool" .non = some false := id rfl
@[simp] theorem in_is : isTy "str" .non = some false := id rfl
@[simp] theorem in_il : isTy "list" .non = some false := id rfl
@[simp] theorem in_it : isTy "tuple" .non = some false := id rfl
@[simp] theorem tyN_non : D.tyN .non = some "NoneType" := id rfl
@[simp] theorem tyN_bl (i) : D.tyN (.bl i) = some "bool" := id rfl
@[simp] theorem tyN_int (i) : D.tyN (.int i) = some "int" := id rfl
@[simp] theorem tyN_str (i) : D.tyN (.str i) = some "str" := id rfl
@[simp] theorem tyN_lst (i) : D.tyN (.lst i) = some "list" := id rfl
@[simp] theorem tyN_tup (i) : D.tyN (.tup i) = some "tuple" := id rfl
@[simp] theorem isI_int (i) : D.isI (.int i) = true := id rfl
@[simp] theorem isC_int (i) : D.isC (.int i) = decide (0 ≤ i) := id rfl
@[simp] theorem isB4_int (m i) : D.isB4 m (.int i) = (decide (0 ≤ i) && decide (i < m)) := id rfl
section calls
variable {cl : Nat → List O → COut} {sg : Nat → List Nat} {ε : Env}
@[simp] theorem cA_nil (m j) : callArgs ε m j [] = some ([], [], [], ε) := id rfl
def cAc (o : O) (i : Option Nat) (b : Option Nat) (r : Option (List O × List Nat × List Nat × Env)) : Option (List O × List Nat × List Nat × Env) := match r with
  | some (os, ms, bs, ε2) => some (o :: os, i.toList ++ ms, b.toList ++ bs, ε2)
  | none => none
@[simp] theorem cAc_some (o i b os ms bs ε2) : cAc o i b (some (os, ms, bs, ε2)) = some (o :: os, i.toList ++ ms, b.toList ++ bs, ε2) := id rfl
@[simp] theorem cA_val (m j o hs) (h : m.contains j = false) : callArgs ε m j (.val o :: hs) = cAc (.im o.er) none none (callArgs ε m (j + 1) hs) := by
  rw [callArgs]; simp only [h, rd, cAc]; cases callArgs ε m (j + 1) hs <;> rfl
@[simp] theorem cA_im (m j i d hs) (h : m.contains j = false) (hi : ε i = some (.im d)) : callArgs ε m j (.slot i :: hs) = cAc (.im d) none none (callArgs ε m (j + 1) hs) := by
  rw [callArgs]; simp only [h, rd, hi, cAc]; cases callArgs ε m (j + 1) hs <;> rfl
@[simp] theorem cA_ls (m j i d hs) (h : m.contains j = false) (hi : ε i = some (.ls d)) : callArgs ε m j (.slot i :: hs) = cAc (.im (.lst d)) none (some i) (callArgs ε m (j + 1) hs) := by
  rw [callArgs]; simp only [h, rd, hi, cAc]; cases callArgs ε m (j + 1) hs <;> rfl
@[simp] theorem cA_tup (m j i d hs) (h : m.contains j = false) (hi : ε i = some (.tup d)) : callArgs ε m j (.slot i :: hs) = cAc (.im (.tup (O.ers d))) none (some i) (callArgs (up ε i (.im (.tup (O.ers d)))) m (j + 1) hs) := by
  rw [callArgs]; simp only [h, rd, hi, cAc]; cases callArgs (up ε i (.im (.tup (O.ers d)))) m (j + 1) hs <;> rfl
@[simp] theorem cA_lst (m j i d hs) (h : m.contains j = false) (hi : ε i = some (.lst d)) : callArgs ε m j (.slot i :: hs) = cAc (.im (.lst (O.ers d))) none (some i) (callArgs (up ε i (.ls (O.ers d))) m (j + 1) hs) := by
  rw [callArgs]; simp only [h, rd, hi, cAc]; cases callArgs (up ε i (.ls (O.ers d))) m (j + 1) hs <;> rfl
@[simp] theorem cA_mut (m j i o hs) (h : m.contains j = true) (hi : ε i = some o) : callArgs ε m j (.slot i :: hs) = cAc o (some i) none (callArgs ε m (j + 1) hs) := by
  rw [callArgs]; simp only [h, hi, cAc]; cases callArgs ε m (j + 1) hs <;> rfl
def dcK (cl : Nat → List O → COut) (f : Nat) (r : Option (List O × List Nat × List Nat × Env)) : Res O := match r with
  | some (os, ms, bs, ε1) => if okArgs ms bs then ended (cl f os) ms bs ε1 else .bad
  | none => .bad
@[simp] theorem dcK_some (f os ms bs ε1) : dcK cl f (some (os, ms, bs, ε1)) = if okArgs ms bs then ended (cl f os) ms bs ε1 else .bad := id rfl
@[simp] theorem doCall_eq (f hs) : doCall cl sg f hs ε = dcK cl f (callArgs ε (sg f) 0 hs) := id rfl
@[simp] theorem okArgs_nil (bs) : okArgs [] bs = true := id rfl
@[simp] theorem okArgs_cons (m r bs) : okArgs (m :: r) bs = (!(r.contains m) && !(bs.contains m) && okArgs r bs) := id rfl
@[simp] theorem ended_ret0 (o bs) : ended (.ret o []) [] bs ε = .ok o (if bs.isEmpty || o.flat then ε else freeze bs ε) := by
  simp only [ended, ups, O.flats, Bool.and_true]; split <;> rfl
@[simp] theorem ended_exc0 (c v bs) : ended (.exc c v []) [] bs ε = .exc c v (if bs.isEmpty || v.flat then ε else freeze bs ε) := by
  simp only [ended, ups, O.flats, Bool.and_true]; split <;> rfl
@[simp] theorem ended_ret1 (o m g) : ended (.ret o [g]) [m] [] ε = .ok o (up ε m g) := by simp [ended, ups]
end calls
section lcs
variable {cl : Nat → List O → COut} {sg : Nat → List Nat} {ε : Env}
def thenB (r : Option Env) (k : Env → Res (Option O)) : Res (Option O) := match r with
  | some ε2 => k ε2
  | none => .bad
@[simp] theorem thenB_some (ε k) : thenB (some ε) k = k ε := id rfl
def ifB (k : Bool) (r : Env → Res (Option O)) (ε : Env) : Res (Option O) := match k with
  | true => r ε
  | false => .ok none ε
@[simp] theorem ifB_t (r ε) : ifB true r ε = r ε := id rfl
@[simp] theorem ifB_f (r ε) : ifB false r ε = .ok none ε := id rfl
def someB (o : O) (ε : Env) : Res (Option O) := .ok (some o) ε
@[simp] theorem someB_eq (o ε) : someB o ε = .ok (some o) ε := id rfl
@[simp] theorem lcB_eq (tg ifs e x) : lcB cl sg tg ifs e x ε = thenB (bindT [] tg (.im x) ε) fun ε2 => (evTs cl sg ifs ε2).bind (ifB · (fun ε3 => (evE cl sg e ε3).bind someB) ·) := by
  unfold lcB; cases bindT [] tg (.im x) ε <;> rfl
@[simp] theorem forStep_eq (mp t b x) : forStep cl sg mp t b x ε = match bindT mp t (.im x) ε with
    | some ε2 => evSs cl sg mp b ε2
    | none => .bad := rfl
end lcs
def gb_is_whole : List St := [.ret (.and [.pr .isi [.var 0, .gl (.ty "int")], .not (.pr .isi [.var 0, .gl (.ty "bool")])])]
def gb_is_count (i_is_whole : Nat) : List St := [.ret (.and [.call i_is_whole [.var 0], .pr .ge [.var 0, .cst (.int 0)]])]
def gb_is_below (i_is_count : Nat) : List St := [.ret (.and [.call i_is_count [.var 0], .pr .lt [.var 0, .var 1]])]
def gb_is_pair (i_is_below : Nat) : List St := [.ite (.or [.not (.pr .isi [.var 1, .gl (.ty "tuple")]), .pr .ne [.pr .len [.var 1], .cst (.int 2)]]) [.ret (.cst (.bl false))] [], .ret (.and [.call i_is_below [.pr .idx [.var 1, .cst (.int 0)], .var 0], .call i_is_below [.pr .idx [.var 1, .cst (.int 1)], .var 0], .pr .lt [.pr .idx [.var 1, .cst (.int 0)], .pr .idx [.var 1, .cst (.int 1)]]])]
def gb_is_web (i_is_whole i_is_pair n_MOST_PLACES n_MOST_TIES : Nat) : List St := [.ite (.or [.not (.pr .isi [.var 0, .gl (.ty "tuple")]), .pr .ne [.pr .len [.var 0], .cst (.int 2)], .not (.call i_is_whole [.pr .idx [.var 0, .cst (.int 0)]]), .not (.chain .le .le (.cst (.int 1)) (.pr .idx [.var 0, .cst (.int 0)]) (.gl (.int n_MOST_PLACES 10)))]) [.ret (.cst (.bl false))] [], .asg (.tup [.name 1, .name 2]) (.var 0), .ite (.or [.not (.pr .isi [.var 2, .gl (.ty "list")]), .pr .gt [.pr .len [.var 2], .gl (.int n_MOST_TIES 24)], .pr .ne [.lc (.var 3) (.name 3) (.var 2) [.not (.call i_is_pair [.var 1, .var 3])] [3], .lst []]]) [.ret (.cst (.bl false))] [], .ret (.pr .eq [.var 2, .pr .sorted1 [.var 2]])]
def gb_check_web (i_is_web c_InvalidWeb : Nat) : List St := [.ite (.not (.call i_is_web [.var 0])) [.rse c_InvalidWeb (.var 0)] []]

/-! comprehensions: the world as it is; over one's own list -/
section lcs2
variable {α : Type} {cl : Nat → List O → COut} {sg : Nat → List Nat} {ε : Env} {e q : Ex} {tg : Tg} {it : Ex} {own : List Nat} {i : Nat}
theorem lc_map0 (enc : α → D) (xs : List α) (g : α → D) (hit : evIt cl sg it ε = .ok (xs.map enc) ε) (hl : xs.length ≤ 16777216)
    (hb : ∀ x ∈ xs, ∃ ε', lcB cl sg tg [] e (enc x) (wipe own ε) = .ok (some (.im (g x))) ε' ∧ Fr own ε' ε) :
    evE cl sg (.lc e tg it [] own) ε = .ok (.ls (xs.map g)) (rez own ε) := lc_map enc xs g hit hl hb
theorem lc_filter0 (enc : α → D) (xs : List α) (p : α → Bool) (g : α → D) (hit : evIt cl sg it ε = .ok (xs.map enc) ε) (hl : xs.length ≤ 16777216)
    (hb : ∀ x ∈ xs, ∃ ε', lcB cl sg tg [q] e (enc x) (wipe own ε) = .ok (if p x then some (.im (g x)) else none) ε' ∧ Fr own ε' ε) :
    evE cl sg (.lc e tg it [q] own) ε = .ok (.ls ((xs.filter p).map g)) (rez own ε) := lc_filter enc xs p g hit hl hb
theorem lc_map1 (enc : α → D) (xs : List α) (g : α → D) (hi : ε i = some (.ls (xs.map enc))) (hl : xs.length ≤ 16777216)
    (hb : ∀ x ∈ xs, ∃ ε', lcB cl sg tg [] e (enc x) (wipe own (up ε i (.im (.lst (xs.map enc))))) = .ok (some (.im (g x))) ε' ∧ Fr own ε' (up ε i (.im (.lst (xs.map enc))))) :
    evE cl sg (.lc e tg (.var i) [] own) ε = .ok (.ls (xs.map g)) (rez own (up ε i (.im (.lst (xs.map enc))))) := lc_map enc xs g (by simp [hi]) hl hb
theorem lc_filter1 (enc : α → D) (xs : List α) (p : α → Bool) (g : α → D) (hi : ε i = some (.ls (xs.map enc))) (hl : xs.length ≤ 16777216)
    (hb : ∀ x ∈ xs, ∃ ε', lcB cl sg tg [q] e (enc x) (wipe own (up ε i (.im (.lst (xs.map enc))))) = .ok (if p x then some (.im (g x)) else none) ε' ∧ Fr own ε' (up ε i (.im (.lst (xs.map enc))))) :
    evE cl sg (.lc e tg (.var i) [q] own) ε = .ok (.ls ((xs.filter p).map g)) (rez own (up ε i (.im (.lst (xs.map enc))))) := lc_filter enc xs p g (by simp [hi]) hl hb
@[simp] theorem rez_apply (own ε j) : rez own ε j = if own.contains j then (ε j).map (fun o => .im o.er) else ε j := id rfl
@[simp] theorem wipe_apply (own ε j) : wipe own ε j = if own.contains j then none else ε j := id rfl
@[simp] theorem unwipe_apply (own ε0 ε j) : unwipe own ε0 ε j = if own.contains j then (ε0 j).map (fun o => .im o.er) else ε j := id rfl
@[simp] theorem freeze_apply (bs ε j) : freeze bs ε j = if bs.contains j then (ε j).map (fun o => .im o.er) else ε j := id rfl
@[simp] theorem froz_apply (m ε j) : froz m ε j = if m.contains j then ε j else (ε j).map (fun o => .im o.er) := id rfl
@[simp] theorem unfroz_apply (m ε ε1 j) : unfroz m ε ε1 j = if m.contains j then ε1 j else ε j := id rfl
@[simp] theorem clr_apply (i ε j) : clr i ε j = if j = i then none else ε j := id rfl
@[simp] theorem fr_refl (M ε) : Fr M ε ε := Fr.refl M ε
@[simp] theorem fr_up {M ε i o ε0} (h : M.contains i = true) (h' : Fr M ε ε0) : Fr M (Ev.up ε i o) ε0 := h'.up h
@[simp] theorem fr_wipe {own ε} : Fr own (wipe own ε) ε := fr_of_wipe own ε
end lcs2
def unP : D → Nat × Nat
  | .tup [.int a, .int b] => (a.toNat, b.toNat)
  | _ => (0, 0)
def D.isW : D → Bool
  | .tup [.int m, .lst ts] => decide (1 ≤ m) && decide (m ≤ 10) && decide (ts.length ≤ 24) && ts.all (D.isP m) && decide ((ts.map unP).Pairwise fun p q => leP p q = true)
  | _ => false
theorem isP_pD {m d} (h : D.isP m d = true) : d = pD (unP d) ∧ (unP d).1 < (unP d).2 ∧ ((unP d).2 : Int) < m := by
  cases d with
  | tup xs =>
    match xs, h with
    | [.int a, .int b], h =>
      simp [D.isP] at h
      simp [unP, pD]; omega
  | _ => simp [D.isP] at h
theorem all_isP {m} {ts : List D} (h : ts.all (D.isP m) = true) : ts = (ts.map unP).map pD := by
  rw [List.all_eq_true] at h
  rw [List.map_map]
  conv => lhs; rw [← List.map_id ts]
  apply List.map_congr_left
  intro d hd
  exact (isP_pD (h d hd)).1
theorem leP_trans (a b c : Nat × Nat) : leP a b = true → leP b c = true → leP a c = true := by simp [leP]; omega
theorem leP_total (a b : Nat × Nat) : (leP a b || leP b a) = true := by simp [leP]; omega
theorem sorted_iff (ps : List (Nat × Nat)) : ps = ps.mergeSort leP ↔ ps.Pairwise fun p q => leP p q = true := by
  constructor
  · intro h; rw [h]; exact List.pairwise_mergeSort leP_trans leP_total ps
  · intro h; exact (List.mergeSort_of_pairwise h).symm
theorem pr_eq_pDs (xs ys : List (Nat × Nat)) : prim .eq [.lst (xs.map pD), .lst (ys.map pD)] = some (.im (.bl (decide (xs = ys)))) := by
  rw [pr_eq _ _ (by simp [okDs_eq, pD]), eqv_lst]
  rw [bool_of_iff (eqvs_map pD eqv_pD xs ys)]
theorem tyN_ok {d : D} {n} (h : D.okD d n = true) : d.nz = true := by
  cases d <;> first | rfl | (simp [D.okD] at h; done)
theorem okDs_mem {xs : List D} {n} (h : D.okDs xs n = true) {d} (hd : d ∈ xs) : D.okD d (n - 1) = true := by
  rw [okDs_eq, Bool.and_eq_true, List.all_eq_true] at h; exact h.2 d hd
theorem okDs_pos {xs : List D} {n} (h : D.okDs xs n = true) : 0 < n := by
  rw [okDs_eq, Bool.and_eq_true, decide_eq_true_eq] at h; exact h.1
structure KindsT (T : Tab) where
  whole : Nat
  hwhole : T whole = some ⟨1, [], gb_is_whole⟩
  count : Nat
  hcount : T count = some ⟨1, [], gb_is_count whole⟩
  below : Nat
  hbelow : T below = some ⟨2, [], gb_is_below count⟩
  pair : Nat
  hpair : T pair = some ⟨2, [], gb_is_pair below⟩
  web : Nat
  np : Nat
  nt : Nat
  hweb : T web = some ⟨1, [], gb_is_web whole pair np nt⟩
  cweb : Nat
  xweb : Nat
  hcweb : T cweb = some ⟨1, [], gb_check_web web xweb⟩
section kinds
variable {T : Tab} (k : KindsT T)
theorem KindsT.is_whole (n d) (h : d.nz = true) : callN T (n + 1) k.whole [.im d] = .ret (.im (.bl d.isI)) [] := by
  rw [callN_succ k.hwhole rfl]
  cases d <;> first | (simp [gb_is_whole, D.isI]; done) | (simp [D.nz] at h; done)
theorem KindsT.is_count (n d) (h : d.nz = true) : callN T (n + 2) k.count [.im d] = .ret (.im (.bl d.isC)) [] := by
  rw [callN_succ k.hcount rfl]
  cases d <;> simp [gb_is_count, D.isI, D.isC, sg_of k.hwhole, k.is_whole _ _ h]
theorem KindsT.is_below (n d m) (h : d.nz = true) : callN T (n + 3) k.below [.im d, .im (.int m)] = .ret (.im (.bl (d.isB4 m))) [] := by
  rw [callN_succ k.hbelow rfl]
  cases d <;> simp [gb_is_below, D.isC, D.isB4, sg_of k.hcount, k.is_count _ _ h] 
  rename_i i
  cases decide (0 ≤ i) <;> simp
theorem KindsT.is_pair (n j d) (m : Int) (h : D.okD d j = true) : callN T (n + 4) k.pair [.im (.int m), .im d] = .ret (.im (.bl (d.isP m))) [] := by
  rw [callN_succ k.hpair rfl]
  cases d with
  | tup xs =>
    match xs with
    | [] => simp [gb_is_pair, D.isP]
    | [a] => simp [gb_is_pair, D.isP]
    | [a, b] =>
      simp only [okD_tup] at h
      have ha := tyN_ok (okDs_mem h (d := a) (by simp))
      have hb := tyN_ok (okDs_mem h (d := b) (by simp))
      cases a with
      | int i =>
        by_cases h0 : 0 ≤ i
        · by_cases h1 : i < m
          · cases b with
            | int l =>
              by_cases h2 : 0 ≤ l
              · by_cases h3 : l < m
                · simp [gb_is_pair, sg_of k.hbelow, k.is_below, ha, hb, h0, h1, h2, h3, D.isP]
                · simp [gb_is_pair, sg_of k.hbelow, k.is_below, ha, hb, h0, h1, h2, h3, D.isP]
              · have : ¬ i < l := by omega
                simp [gb_is_pair, sg_of k.hbelow, k.is_below, ha, hb, h0, h1, h2, this, D.isP]
            | _ => simp [gb_is_pair, sg_of k.hbelow, k.is_below, ha, hb, h0, h1, D.isP, D.isB4]
          · have : ∀ l : Int, (decide (i < l) && decide (l < m)) = false := fun l => by simp; omega
            cases b <;> simp [gb_is_pair, sg_of k.hbelow, k.is_below, ha, hb, h0, h1, D.isP]
            omega
        · cases b <;> simp [gb_is_pair, sg_of k.hbelow, k.is_below, ha, hb, h0, D.isP]
      | _ => simp [gb_is_pair, sg_of k.hbelow, k.is_below, ha, hb, D.isB4, D.isP]
    | a :: b :: c :: xs => 
      have : ¬ ((xs.length : Int) + 1 + 1 + 1 = 2) := by omega
      simp [gb_is_pair, D.isP, this]
  | dct _ => simp [D.okD] at h
  | scr _ => simp [D.okD] at h
  | fn _ => simp [D.okD] at h
  | ty _ => simp [D.okD] at h
  | cls _ => simp [D.okD] at h
  | exc _ _ => simp [D.okD] at h
  | _ => simp [gb_is_pair, D.isP]
theorem KindsT.is_web (n j d) (h : D.okD d j = true) : callN T (n + 5) k.web [.im d] = .ret (.im (.bl d.isW)) [] := by
  rw [callN_succ k.hweb rfl]
  cases d with
  | tup xs =>
    match xs with
    | [] => simp [gb_is_web, D.isW]
    | [a] => simp [gb_is_web, D.isW]
    | [a, b] =>
      simp only [okD_tup] at h
      have ha' := okDs_mem h (d := a) (by simp)
      have hb' := okDs_mem h (d := b) (by simp)
      have ha := tyN_ok ha'
      have hb := tyN_ok hb'
      cases a with
      | int m =>
        by_cases h1 : 1 ≤ m
        · by_cases h2 : m ≤ 10
          · cases b with
            | lst ts =>
              simp only [okD_lst] at hb'
              by_cases h3 : ts.length ≤ 24
              · have h3' : ¬ (24 : Int) < ts.length := by omega
                have hlc : ∀ ε : Env, ε 1 = some (.im (.int m)) → ε 2 = some (.im (.lst ts)) → evE (callN T (n + 4)) T.sg (.lc (.var 3) (.name 3) (.var 2) [.not (.call k.pair [.var 1, .var 3])] [3]) ε = .ok (.ls ((ts.filter fun d => !D.isP m d).map id)) (rez [3] ε) := by
                  intro ε e1 e2
                  refine lc_filter0 id ts _ id (by simp [e2]) (by omega) fun x hx => ?_
                  refine ⟨up (wipe [3] ε) 3 (.im x), by simp [e1, sg_of k.hpair, k.is_pair _ _ _ _ (okDs_mem hb' hx)]; cases D.isP m x <;> simp, by simp⟩
                have hf : (ts.filter fun d => !D.isP m d).isEmpty = ts.all (D.isP m) := by
                  rw [Bool.eq_iff_iff]; simp
                cases hall : ts.all (D.isP m) with
                | false => simp [gb_is_web, D.isW, sg_of k.hwhole, k.is_whole, h1, h2, hnIm, h3, h3', hlc, hf, hall]
                | true =>
                  obtain ⟨ps, rfl⟩ : ∃ ps : List (Nat × Nat), ts = ps.map pD := ⟨_, all_isP hall⟩
                  have hu : (ps.map pD).map unP = ps := by
                    rw [List.map_map]; conv => rhs; rw [← List.map_id ps]
                    apply List.map_congr_left; intro p _; simp [unP, pD]
                  simp only [List.length_map] at h3 h3'
                  have hs : decide (ps = ps.mergeSort leP) = decide (ps.Pairwise fun p q => leP p q = true) := by rw [decide_eq_decide]; exact sorted_iff ps
                  simp [gb_is_web, D.isW, sg_of k.hwhole, k.is_whole, h1, h2, hnIm, h3, h3', hlc, hf, hall, hu, pr_sorted_pD, pr_eq_pDs, -List.map_map, hs]
              · have h3' : (24 : Int) < ts.length := by omega
                simp [gb_is_web, D.isW, sg_of k.hwhole, k.is_whole, h1, h2, hnIm, h3, h3']
            | non | bl _ | int _ | str _ | tup _ => simp [gb_is_web, D.isW, sg_of k.hwhole, k.is_whole, h1, h2, hnIm]
            | _ => simp [D.nz] at hb
          · cases b <;> simp [gb_is_web, D.isW, sg_of k.hwhole, k.is_whole, h1, h2, hnIm]
        · cases b <;> simp [gb_is_web, D.isW, sg_of k.hwhole, k.is_whole, h1, hnIm]
      | _ => first | (simp [D.nz] at ha; done) | simp [gb_is_web, D.isW, sg_of k.hwhole, k.is_whole, D.isI]
    | a :: b :: c :: xs => 
      have : ¬ ((xs.length : Int) + 1 + 1 + 1 = 2) := by omega
      simp [gb_is_web, D.isW, this]
  | dct _ => simp [D.okD] at h
  | scr _ => simp [D.okD] at h
  | fn _ => simp [D.okD] at h
  | ty _ => simp [D.okD] at h
  | cls _ => simp [D.okD] at h
  | exc _ _ => simp [D.okD] at h
  | _ => simp [gb_is_web, D.isW]
theorem KindsT.check_web (n j d) (h : D.okD d j = true) : callN T (n + 6) k.cweb [.im d] = if d.isW then .ret (.im .non) [] else .exc k.xweb d [] := by
  rw [callN_succ k.hcweb rfl]
  cases hd : d.isW <;> simp [gb_check_web, sg_of k.hweb, k.is_web _ j d h, hd]
end kinds
end Ev
end
section
set_option linter.all false
set_option maxRecDepth 100000
set_option maxHeartbeats 4000000
/-! Loops met in a def; labels and pieces. -/
namespace Ev
open PySem Gr
/-- nothing of one's own there -/
def qt : Option O → Bool
  | none => true
  | some (.im _) => true
  | _ => false
@[simp] theorem qt_none : qt none = true := by rw [qt]
@[simp] theorem qt_im (d) : qt (some (.im d)) = true := by rw [qt]
@[simp] theorem fr_rez {M N ε ε0} (h : ∀ j ∈ N, qt (ε j) = true) (h' : Fr M ε ε0) : Fr M (rez N ε) ε0 := fun j hj => by
  rw [rez_apply]
  by_cases hN : N.contains j = true
  · rw [if_pos hN]
    have := h j (by simpa using hN)
    have e := h' j hj
    cases hε : ε j with
    | none => rw [hε] at e; simpa using e
    | some o =>
      rw [hε] at this e
      cases o <;> simp [qt] at this
      simpa using e
  · rw [if_neg hN]; exact h' j hj
theorem filterMap_ite {α β : Type} (p : α → Prop) [DecidablePred p] (f : α → β) (l : List α) : l.filterMap (fun r => if p r then some (f r) else none) = (l.filter fun r => decide (p r)).map f := by
  induction l with
  | nil => rfl
  | cons x l ih => rw [List.filterMap_cons, List.filter_cons]; by_cases h : p x <;> simp [h, ih]
/-- a call that ends, and what is so of what it gives -/
def Ends (c : COut) (P : O → List O → Prop) : Prop := ∃ o fin, c = .ret o fin ∧ P o fin
@[simp] theorem Ends_ret (o fin P) : Ends (.ret o fin) P = P o fin := by
  simp only [Ends, eq_iff_iff]
  constructor
  · rintro ⟨o', fin', e, h⟩; cases e; exact h
  · intro h; exact ⟨o, fin, rfl, h⟩
section bors
variable {cl : Nat → List O → COut} {sg : Nat → List Nat} {ε : Env}
def borT (m : List Nat) (ε : Env) (r : Res Bool) : Res Bool := match r with
    | .ok k ε1 => if scals m ε1 then .ok k (unfroz m ε ε1) else .bad
    | .exc c v ε1 => .exc c v ε1
    | .bad => .bad
@[simp] theorem borT_ok (m k ε1) : borT m ε (.ok k ε1) = if scals m ε1 then .ok k (unfroz m ε ε1) else .bad := id rfl
@[simp] theorem evT_bor' (m e) : evT cl sg (.bor m e) ε = borT m ε (evT cl sg e (froz m ε)) := by rw [evT_bor]; cases evT cl sg e (froz m ε) <;> rfl
def borE (m : List Nat) (ε : Env) (r : Res O) : Res O := match r with
    | .ok (.im d) ε1 => if d.scal && scals m ε1 then .ok (.im d) (unfroz m ε ε1) else .bad
    | .ok _ _ => .bad
    | .exc c v ε1 => .exc c v ε1
    | .bad => .bad
@[simp] theorem borE_ok (m d ε1) : borE m ε (.ok (.im d) ε1) = if d.scal && scals m ε1 then .ok (.im d) (unfroz m ε ε1) else .bad := id rfl
@[simp] theorem evE_bor' (m e) : evE cl sg (.bor m e) ε = borE m ε (evE cl sg e (froz m ε)) := by
  rw [evE_bor]
  rcases evE cl sg e (froz m ε) with ⟨o, ε1⟩ | _ | _
  · cases o <;> rfl
  · rfl
  · rfl
@[simp] theorem scals_nil (ε) : scals [] ε = true := by rw [scals]; rfl
@[simp] theorem unfroz_nil (ε ε1) : unfroz [] ε ε1 = ε := by funext j; simp [unfroz]
theorem evE_appAt1 {i e os ds d} {a : Int} {j : Nat} (h : ε i = some (.lst os)) (hj : ixN os.length a = some j) (ho : os[j]? = some (.ls ds)) (hl : ds.length < 16777216) (hd : rdv ε e = some d) :
    evE cl sg (.appAt i [.cst (.int a)] e) ε = .ok (.im .non) (up ε i (.lst (os.set j (.ls (ds ++ [d]))))) := by
  have h1 : rdvs ε [.cst (.int a)] = some [a] := by simp [rdvs, rdv]
  rw [evE_appAt, h1, hd, h]
  simp [appIn, hj, ho, hl]
theorem evE_appAt1v {i v e os ds d} {a : Int} {j : Nat} (hv : ε v = some (.im (.int a))) (h : ε i = some (.lst os)) (hj : ixN os.length a = some j) (ho : os[j]? = some (.ls ds)) (hl : ds.length < 16777216) (hd : rdv ε e = some d) :
    evE cl sg (.appAt i [.var v] e) ε = .ok (.im .non) (up ε i (.lst (os.set j (.ls (ds ++ [d]))))) := by
  have h1 : rdvs ε [.var v] = some [a] := by simp [rdvs, rdv, hv]
  rw [evE_appAt, h1, hd, h]
  simp [appIn, hj, ho, hl]
def apJ (ks : List Int) (d : D) (os : List O) (j : Nat) (o : Option O) : Option O := match o with
      | some o => (appIn ks d o).map fun o' => .lst (os.set j o')
      | none => none
@[simp] theorem apJ_some (ks d os j o) : apJ ks d os j (some o) = (appIn ks d o).map fun o' => .lst (os.set j o') := id rfl
def apK (ks : List Int) (d : D) (os : List O) (r : Option Nat) : Option O := match r with
    | some j => apJ ks d os j os[j]?
    | none => none
@[simp] theorem apK_some (ks d os j) : apK ks d os (some j) = apJ ks d os j os[j]? := id rfl
@[simp] theorem appIn_lst (k ks d os) : appIn (k :: ks) d (.lst os) = apK ks d os (ixN os.length k) := by
  rw [appIn]; unfold apK apJ
  cases ixN os.length k with
  | none => rfl
  | some j => cases h : os[j]? with
    | none => simp [h]
    | some o => simp [h]; cases appIn ks d o <;> rfl
@[simp] theorem appIn_ls (d ds) (h : ds.length < 16777216) : appIn [] d (.ls ds) = some (.ls (ds ++ [d])) := by rw [appIn]; simp [h]
def apE (i : Nat) (a : Option (List Int)) (b : Option D) (c : Option O) (ε : Env) : Res O := match a, b, c with
    | some is, some d, some t => match appIn is d t with
      | some t' => .ok (.im .non) (up ε i t')
      | none => .bad
    | _, _, _ => .bad
def apR (i : Nat) (r : Option O) (ε : Env) : Res O := match r with
      | some t' => .ok (.im .non) (up ε i t')
      | none => .bad
@[simp] theorem apR_some (i t ε) : apR i (some t) ε = .ok (.im .non) (up ε i t) := id rfl
@[simp] theorem apE_some (i is d t ε) : apE i (some is) (some d) (some t) ε = apR i (appIn is d t) ε := id rfl
theorem evE_appAt' (i ps e) : evE cl sg (.appAt i ps e) ε = apE i (rdvs ε ps) (rdv ε e) (ε i) ε := by rw [evE_appAt]; rfl
def rvK (a : Option D) (b : Option (List Int)) : Option (List Int) := match a, b with
    | some (.int k), some ks => some (k :: ks)
    | _, _ => none
@[simp] theorem rvK_some (k ks) : rvK (some (.int k)) (some ks) = some (k :: ks) := id rfl
@[simp] theorem rdvs_nil : rdvs ε [] = some [] := id rfl
@[simp] theorem rdvs_cons (e es) : rdvs ε (e :: es) = rvK (rdv ε e) (rdvs ε es) := by rw [rdvs]; rfl
@[simp] theorem forIt_nil (step : D → Env → Res Fl) (ε) : forIt step [] ε = .ok .next ε := id rfl
@[simp] theorem forIt_cons (step : D → Env → Res Fl) (x xs ε) : forIt step (x :: xs) ε = thn (step x ε) (forIt step xs) := by rw [forIt]; rfl
@[simp] theorem rdv_cst (c) : rdv ε (.cst c) = some c.d := by rw [rdv]
@[simp] theorem rdv_var {j d} (h : ε j = some (.im d)) : rdv ε (.var j) = some d := by rw [rdv, h]
end bors
section useloops
variable {α : Type} {cl : Nat → List O → COut} {sg : Nat → List Nat} {mp mp' : List Nat} {t : Tg} {it c : Ex} {b : List St} {ε ε1 : Env} {k : Env → Res Fl} {R : COut} {P : Env → Prop}
theorem thn_F (I : Env → Prop) {r : Res Fl} (h : ∃ ε', r = .ok .next ε' ∧ I ε') (hk : ∀ ε', I ε' → outOf mp' (k ε') = R) : outOf mp' (thn r k) = R := by
  obtain ⟨ε', rfl, h2⟩ := h; exact hk ε' h2
theorem thn_S (I : Env → Prop) {r : Res Fl} (h : ∃ ε', r = .ok .next ε' ∧ I ε') (hk : ∀ ε', I ε' → ∃ ε2, k ε' = .ok .next ε2 ∧ P ε2) : ∃ ε2, thn r k = .ok .next ε2 ∧ P ε2 := by
  obtain ⟨ε', rfl, h2⟩ := h; exact hk ε' h2
/-- a for over what a name shows -/
theorem for_F (enc : α → D) (xs : List α) (I : List α → Env → Prop) (hit : evIt cl sg it ε = .ok (xs.map enc) ε1) (h0 : I [] ε1)
    (hs : ∀ done x rest ε, done ++ x :: rest = xs → I done ε → ∃ ε', forStep cl sg mp t b (enc x) ε = .ok .next ε' ∧ I (done ++ [x]) ε')
    (hk : ∀ ε', I xs ε' → outOf mp' (k ε') = R) : outOf mp' (thn (evS cl sg mp (.for_ t it b) ε) k) = R := thn_F (I xs) (for_list enc xs hit I h0 hs) hk
theorem for_S (enc : α → D) (xs : List α) (I : List α → Env → Prop) (hit : evIt cl sg it ε = .ok (xs.map enc) ε1) (h0 : I [] ε1)
    (hs : ∀ done x rest ε, done ++ x :: rest = xs → I done ε → ∃ ε', forStep cl sg mp t b (enc x) ε = .ok .next ε' ∧ I (done ++ [x]) ε')
    (hk : ∀ ε', I xs ε' → ∃ ε2, k ε' = .ok .next ε2 ∧ P ε2) : ∃ ε2, thn (evS cl sg mp (.for_ t it b) ε) k = .ok .next ε2 ∧ P ε2 := thn_S (I xs) (for_list enc xs hit I h0 hs) hk
theorem for_F0 (enc : α → D) (xs : List α) (I : List α → Env → Prop) (hit : evIt cl sg it ε = .ok (xs.map enc) ε) (h0 : I [] ε)
    (hs : ∀ done x rest ε, done ++ x :: rest = xs → I done ε → ∃ ε', forStep cl sg mp t b (enc x) ε = .ok .next ε' ∧ I (done ++ [x]) ε')
    (hk : ∀ ε', I xs ε' → outOf mp' (k ε') = R) : outOf mp' (thn (evS cl sg mp (.for_ t it b) ε) k) = R := for_F enc xs I hit h0 hs hk
theorem for_S0 (enc : α → D) (xs : List α) (I : List α → Env → Prop) (hit : evIt cl sg it ε = .ok (xs.map enc) ε) (h0 : I [] ε)
    (hs : ∀ done x rest ε, done ++ x :: rest = xs → I done ε → ∃ ε', forStep cl sg mp t b (enc x) ε = .ok .next ε' ∧ I (done ++ [x]) ε')
    (hk : ∀ ε', I xs ε' → ∃ ε2, k ε' = .ok .next ε2 ∧ P ε2) : ∃ ε2, thn (evS cl sg mp (.for_ t it b) ε) k = .ok .next ε2 ∧ P ε2 := for_S enc xs I hit h0 hs hk
theorem rng_F {lo : Int} {n : Nat} (I : Nat → Env → Prop) (hit : evIt cl sg it ε = .ok (rngD lo n) ε) (h0 : I 0 ε)
    (hs : ∀ j ε, j < n → I j ε → ∃ ε', forStep cl sg mp t b (.int (lo + j)) ε = .ok .next ε' ∧ I (j + 1) ε')
    (hk : ∀ ε', I n ε' → outOf mp' (k ε') = R) : outOf mp' (thn (evS cl sg mp (.for_ t it b) ε) k) = R := thn_F (I n) (for_rng hit I h0 hs) hk
theorem rngx_F {lo : Int} {n : Nat} (ε1 : Env) (I : Nat → Env → Prop) (hit : evIt cl sg it ε = .ok (rngD lo n) ε1) (h0 : I 0 ε1)
    (hs : ∀ j ε, j < n → I j ε → ∃ ε', forStep cl sg mp t b (.int (lo + j)) ε = .ok .next ε' ∧ I (j + 1) ε')
    (hk : ∀ ε', I n ε' → outOf mp' (k ε') = R) : outOf mp' (thn (evS cl sg mp (.for_ t it b) ε) k) = R := thn_F (I n) (for_rng hit I h0 hs) hk
theorem rng_S {lo : Int} {n : Nat} (I : Nat → Env → Prop) (hit : evIt cl sg it ε = .ok (rngD lo n) ε) (h0 : I 0 ε)
    (hs : ∀ j ε, j < n → I j ε → ∃ ε', forStep cl sg mp t b (.int (lo + j)) ε = .ok .next ε' ∧ I (j + 1) ε')
    (hk : ∀ ε', I n ε' → ∃ ε2, k ε' = .ok .next ε2 ∧ P ε2) : ∃ ε2, thn (evS cl sg mp (.for_ t it b) ε) k = .ok .next ε2 ∧ P ε2 := thn_S (I n) (for_rng hit I h0 hs) hk
theorem rngx_S {lo : Int} {n : Nat} (ε1 : Env) (I : Nat → Env → Prop) (hit : evIt cl sg it ε = .ok (rngD lo n) ε1) (h0 : I 0 ε1)
    (hs : ∀ j ε, j < n → I j ε → ∃ ε', forStep cl sg mp t b (.int (lo + j)) ε = .ok .next ε' ∧ I (j + 1) ε')
    (hk : ∀ ε', I n ε' → ∃ ε2, k ε' = .ok .next ε2 ∧ P ε2) : ∃ ε2, thn (evS cl sg mp (.for_ t it b) ε) k = .ok .next ε2 ∧ P ε2 := thn_S (I n) (for_rng hit I h0 hs) hk
theorem whl_F (n : Nat) (I : Nat → Env → Prop) (Q : Env → Prop) (h0 : I n ε) (hn : n < 1000000)
    (hs : ∀ n ε, I n ε → (∃ ε1, evT cl sg c ε = .ok false ε1 ∧ Q ε1) ∨ (∃ ε1, evT cl sg c ε = .ok true ε1 ∧ ∃ ε2, evSs cl sg mp b ε1 = .ok .next ε2 ∧ ∃ m, m < n ∧ I m ε2))
    (hk : ∀ ε', Q ε' → outOf mp' (k ε') = R) : outOf mp' (thn (evS cl sg mp (.whl c b) ε) k) = R := thn_F Q (whl_inv n I Q h0 hn fun n ε h => by
      rcases hs n ε h with h | ⟨ε1, h1, ε2, h2, m, h3, h4⟩
      · exact .inl h
      · exact .inr ⟨ε1, ε2, m, h1, h2, h3, h4⟩) hk
theorem whl_S (n : Nat) (I : Nat → Env → Prop) (Q : Env → Prop) (h0 : I n ε) (hn : n < 1000000)
    (hs : ∀ n ε, I n ε → (∃ ε1, evT cl sg c ε = .ok false ε1 ∧ Q ε1) ∨ (∃ ε1, evT cl sg c ε = .ok true ε1 ∧ ∃ ε2, evSs cl sg mp b ε1 = .ok .next ε2 ∧ ∃ m, m < n ∧ I m ε2))
    (hk : ∀ ε', Q ε' → ∃ ε2, k ε' = .ok .next ε2 ∧ P ε2) : ∃ ε2, thn (evS cl sg mp (.whl c b) ε) k = .ok .next ε2 ∧ P ε2 := thn_S Q (whl_inv n I Q h0 hn fun n ε h => by
      rcases hs n ε h with h | ⟨ε1, h1, ε2, h2, m, h3, h4⟩
      · exact .inl h
      · exact .inr ⟨ε1, ε2, m, h1, h2, h3, h4⟩) hk
section ends
variable {PE : O → List O → Prop}
theorem thn_E (I : Env → Prop) {r : Res Fl} (h : ∃ ε', r = .ok .next ε' ∧ I ε') (hk : ∀ ε', I ε' → Ends (outOf mp' (k ε')) PE) : Ends (outOf mp' (thn r k)) PE := by
  obtain ⟨ε', rfl, h2⟩ := h; exact hk ε' h2
theorem for_E (enc : α → D) (xs : List α) (I : List α → Env → Prop) (hit : evIt cl sg it ε = .ok (xs.map enc) ε1) (h0 : I [] ε1)
    (hs : ∀ done x rest ε, done ++ x :: rest = xs → I done ε → ∃ ε', forStep cl sg mp t b (enc x) ε = .ok .next ε' ∧ I (done ++ [x]) ε')
    (hk : ∀ ε', I xs ε' → Ends (outOf mp' (k ε')) PE) : Ends (outOf mp' (thn (evS cl sg mp (.for_ t it b) ε) k)) PE := thn_E (I xs) (for_list enc xs hit I h0 hs) hk
theorem for_E0 (enc : α → D) (xs : List α) (I : List α → Env → Prop) (hit : evIt cl sg it ε = .ok (xs.map enc) ε) (h0 : I [] ε)
    (hs : ∀ done x rest ε, done ++ x :: rest = xs → I done ε → ∃ ε', forStep cl sg mp t b (enc x) ε = .ok .next ε' ∧ I (done ++ [x]) ε')
    (hk : ∀ ε', I xs ε' → Ends (outOf mp' (k ε')) PE) : Ends (outOf mp' (thn (evS cl sg mp (.for_ t it b) ε) k)) PE := for_E enc xs I hit h0 hs hk
theorem rng_E {lo : Int} {n : Nat} (I : Nat → Env → Prop) (hit : evIt cl sg it ε = .ok (rngD lo n) ε) (h0 : I 0 ε)
    (hs : ∀ j ε, j < n → I j ε → ∃ ε', forStep cl sg mp t b (.int (lo + j)) ε = .ok .next ε' ∧ I (j + 1) ε')
    (hk : ∀ ε', I n ε' → Ends (outOf mp' (k ε')) PE) : Ends (outOf mp' (thn (evS cl sg mp (.for_ t it b) ε) k)) PE := thn_E (I n) (for_rng hit I h0 hs) hk
theorem rngx_E {lo : Int} {n : Nat} (ε1 : Env) (I : Nat → Env → Prop) (hit : evIt cl sg it ε = .ok (rngD lo n) ε1) (h0 : I 0 ε1)
    (hs : ∀ j ε, j < n → I j ε → ∃ ε', forStep cl sg mp t b (.int (lo + j)) ε = .ok .next ε' ∧ I (j + 1) ε')
    (hk : ∀ ε', I n ε' → Ends (outOf mp' (k ε')) PE) : Ends (outOf mp' (thn (evS cl sg mp (.for_ t it b) ε) k)) PE := thn_E (I n) (for_rng hit I h0 hs) hk
theorem whl_E (n : Nat) (I : Nat → Env → Prop) (Q : Env → Prop) (h0 : I n ε) (hn : n < 1000000)
    (hs : ∀ n ε, I n ε → (∃ ε1, evT cl sg c ε = .ok false ε1 ∧ Q ε1) ∨ (∃ ε1, evT cl sg c ε = .ok true ε1 ∧ ∃ ε2, evSs cl sg mp b ε1 = .ok .next ε2 ∧ ∃ m, m < n ∧ I m ε2))
    (hk : ∀ ε', Q ε' → Ends (outOf mp' (k ε')) PE) : Ends (outOf mp' (thn (evS cl sg mp (.whl c b) ε) k)) PE := thn_E Q (whl_inv n I Q h0 hn fun n ε h => by
      rcases hs n ε h with h | ⟨ε1, h1, ε2, h2, m, h3, h4⟩
      · exact .inl h
      · exact .inr ⟨ε1, ε2, m, h1, h2, h3, h4⟩) hk
end ends
end useloops
def webD (m : Nat) (ts : Ties) : D := .tup [.int m, .lst (ts.map pD)]
structure Web (m : Nat) (ts : Ties) : Prop where
  m1 : 1 ≤ m
  m10 : m ≤ 10
  len : ts.length ≤ 24
  ok : ∀ p ∈ ts, p.1 < p.2 ∧ p.2 < m
  srt : ts.Pairwise fun p q => leP p q = true
theorem Web.In {m ts} (h : Web m ts) : Gr.In m ts := fun p hp => by have := h.ok p hp; omega
theorem okD_webD (m ts) (n : Nat) : D.okD (webD m ts) (n + 3) = true := by simp [webD, okDs_eq, pD]
theorem Web.isW {m ts} (h : Web m ts) : (webD m ts).isW = true := by
  have hu : (ts.map pD).map unP = ts := by
    rw [List.map_map]; conv => rhs; rw [← List.map_id ts]
    apply List.map_congr_left; intro p _; simp [unP, pD]
  have h1 := h.m1
  have h2 := h.m10
  have h3 := h.len
  have h4 : (ts.map pD).all (D.isP m) = true := by
    rw [List.all_map, List.all_eq_true]
    intro p hp
    have := h.ok p hp
    simp [D.isP, pD]; omega
  unfold D.isW webD
  simp only [h4, hu, List.length_map]
  have := h.srt
  simp [h3, this]; omega
theorem tab_get (m : Nat) (f : Nat → Nat) (i : Nat) (h : i < m) : (((List.range m).map f).map dn)[i]? = some (.int (f i)) := by
  simp [h]
def gb_labels_of : List St := [.asg (.name 2) (.pr .lrng [.var 0]), .for_ (.tup [.name 3, .name 4]) (.var 1) [.par [5, 6] [.pr .min2 [.pr .idx [.var 2, .var 3], .pr .idx [.var 2, .var 4]], .pr .max2 [.pr .idx [.var 2, .var 3], .pr .idx [.var 2, .var 4]]], .asg (.name 2) (.lc (.ite (.pr .eq [.var 7, .var 6]) (.var 5) (.var 7)) (.name 7) (.var 2) [] [7])], .ret (.var 2)]
theorem labels_of {T : Tab} {f : Nat} (hf : T f = some ⟨2, [], gb_labels_of⟩) (n m : Nat) (ts : Ties) (hin : In m ts) (hm : m ≤ 16777216) :
    callN T (n + 1) f [.im (.int m), .im (.lst (ts.map pD))] = .ret (.ls (((List.range m).map (lab ts)).map dn)) [] := by
  rw [callN_succ hf rfl]
  simp [gb_labels_of, pr_lrng _ hm, -List.map_map]
  refine for_F0 pD ts (fun done ε => ε 2 = some (.ls (((List.range m).map (lab done)).map dn))) (by simp) ?_ ?_ ?_
  · have : (List.range m).map (lab []) = List.range m := by
      conv => rhs; rw [← List.map_id (List.range m)]
      exact List.map_congr_left fun a _ => lab_nil a
    simp [this]
  · intro done x rest ε e h
    obtain ⟨a, b⟩ := x
    have hx : a < m ∧ b < m := hin (a, b) (by rw [← e]; simp)
    simp [h, pD, tab_get _ _ _ hx.1, tab_get _ _ _ hx.2, -List.map_map]
    rw [lc_map1 dn ((List.range m).map (lab done)) (fun l => if l = max (lab done a) (lab done b) then dn (min (lab done a) (lab done b)) else dn l)]
    · simp [lab_more]
      intro v hv
      split <;> rfl
    · simp [h, -List.map_map]
    · simpa using hm
    · intro l hl
      by_cases hc : l = max (lab done a) (lab done b) <;> simp [hc, -List.map_map]
  · intro ε' h
    simp [h, -List.map_map]
def gb_pieces_of (i_labels_of : Nat) : List St := [.asg (.name 2) (.call i_labels_of [.var 0, .var 1]), .ret (.lc (.lc (.var 4) (.name 4) (.rng [.var 0]) [.pr .eq [.pr .idx [.var 2, .var 4], .var 3]] [4]) (.name 3) (.rng [.var 0]) [.pr .in_ [.var 3, .var 2]] [3])]
theorem lc_eq0 {α : Type} {cl sg e tg it ifs own ε} (enc : α → D) (xs : List α) (g : α → Option O) (hit : evIt cl sg it ε = .ok (xs.map enc) ε) (hl : xs.length ≤ 16777216)
    (hb : ∀ x ∈ xs, ∃ ε', lcB cl sg tg ifs e (enc x) (wipe own ε) = .ok (g x) ε' ∧ Fr own ε' ε) :
    evE cl sg (.lc e tg it ifs own) ε = .ok (mk .ls .lst (xs.filterMap g)) (rez own ε) := lc_eq enc xs g hit hl hb
@[simp] theorem filter_no {α : Type} (l : List α) : l.filter (fun _ => false) = [] := by simp [List.filter_eq_nil_iff]
/-- a comprehension that keeps none -/
theorem lc_none0 {α : Type} {cl sg e tg it q own ε} (enc : α → D) (xs : List α) (hit : evIt cl sg it ε = .ok (xs.map enc) ε) (hl : xs.length ≤ 16777216)
    (hb : ∀ x ∈ xs, ∃ ε', lcB cl sg tg [q] e (enc x) (wipe own ε) = .ok none ε' ∧ Fr own ε' ε) :
    evE cl sg (.lc e tg it [q] own) ε = .ok (.ls []) (rez own ε) := by
  have := lc_filter0 (own := own) (e := e) (tg := tg) (q := q) (sg := sg) (cl := cl) enc xs (fun _ => false) (fun _ => D.non) hit hl (by simpa using hb)
  simpa using this
/-- a list of lists that are new -/
theorem mk_lss (xss : List (List D)) : O.er (mk .ls .lst (xss.map .ls)) = .lst (xss.map .lst) := by
  cases xss with
  | nil => rfl
  | cons x xs =>
    have : O.ims ((x :: xs).map O.ls) = none := rfl
    unfold mk
    rw [this]
    simp only [er_lst]
    congr 1
    clear this
    generalize x :: xs = l
    induction l <;> simp_all
theorem pieces_of {T : Tab} {f g : Nat} (hf : T f = some ⟨2, [], gb_pieces_of g⟩) (hg : T g = some ⟨2, [], gb_labels_of⟩) (n m : Nat) (ts : Ties) (hin : In m ts) (hm : m ≤ 16777216) :
    ∃ o, callN T (n + 2) f [.im (.int m), .im (.lst (ts.map pD))] = .ret o [] ∧ o.er = .lst ((pcs m ts).map lD) := by
  rw [callN_succ hf rfl]
  simp [gb_pieces_of, sg_of hg, labels_of hg n m ts hin hm, -List.map_map]
  rw [lc_eq0 dn (List.range m) (fun r => if r ∈ (List.range m).map (lab ts) then some (.ls (((List.range m).filter fun v => decide (lab ts v = r)).map dn)) else none)]
  · rw [filterMap_ite]
    have e : (((List.range m).filter fun r => decide (r ∈ (List.range m).map (lab ts))).map fun r => (O.ls (((List.range m).filter fun v => decide (lab ts v = r)).map dn))) = ((pcs m ts).map fun x => x.map dn).map O.ls := by
      rw [pcs_lab, List.map_map, List.map_map]; rfl
    rw [e]
    simp [mk_lss, -List.map_map]
    rw [List.map_map]; rfl
  · simp [itR_nat, hm, rngD_zero]
  · simpa using hm
  · intro r hr
    by_cases hc : r ∈ (List.range m).map (lab ts)
    · simp only [if_pos hc]
      simp [pr_in_dn, hc, -List.map_map, -List.mem_map]
      rw [lc_filter0 dn (List.range m) (fun v => decide (lab ts v = r)) dn]
      · simp
      · simp [itR_nat, hm, rngD_zero]
      · simpa using hm
      · intro v hv
        have hv : v < m := by simpa using hv
        refine ⟨up (wipe [4] (up (wipe [3] (up (fun i => [O.im (.int m), O.im (.lst (ts.map pD))][i]?) 2 (.ls (((List.range m).map (lab ts)).map dn)))) 3 (.im (.int r)))) 4 (.im (.int v)), ?_, ?_⟩
        · by_cases h : lab ts v = r <;> simp [h, tab_get _ _ _ hv, -List.map_map]
        · simp
    · simp only [if_neg hc]
      simp [pr_in_dn, hc, -List.map_map, -List.mem_map]
end Ev
end
section
set_option linter.all false
set_option maxRecDepth 100000
set_option maxHeartbeats 4000000
/-! The law's generator. -/
namespace Ev
open PySem Gr
def stR (ε : Env) (i : Nat) (ds : List D) (o : O) (r : Option Nat) : Res Fl := match r with
      | some j => .ok .next (up ε i (.ls (ds.set j o.er)))
      | none => .bad
@[simp] theorem stR_some (ε i ds o j) : stR ε i ds o (some j) = .ok .next (up ε i (.ls (ds.set j o.er))) := id rfl
@[simp] theorem setTo_ls {ε i ds z o} (h : ε i = some (.ls ds)) : setTo ε i (.int z) o = stR ε i ds o (ixN ds.length z) := by
  unfold setTo stR
  rw [h] <;> (cases e : ixN ds.length z <;> simp [e])
@[simp] theorem appTo_ls {ε i ds o} (h : ε i = some (.ls ds)) (hl : ds.length < 16777216) : appTo ε i o = .ok (.im .non) (up ε i (.ls (ds ++ [o.er]))) := by
  unfold appTo; rw [h]; simp [hl]
theorem big_of {i : Int} (h : i.natAbs < 1000000000000000000000000000000) : big i = true := by
  unfold big
  rw [decide_eq_true_eq]
  by_cases h0 : i.natAbs = 0
  · rw [h0]; decide
  · have : i.natAbs.log2 < 100 := (Nat.log2_lt h0).mpr (Nat.lt_trans h (by decide))
    omega
theorem pr_mul' (i j : Int) (h : i.natAbs < 1000000000000000000000000000000) (h' : j.natAbs < 1000000000000000000000000000000) : prim .mul [.int i, .int j] = some (.im (.int (i * j))) :=
  pr_mul i j (by rw [big_of h, big_of h']; rfl)
def gb__law_hash : List St := [.asg (.name 2) (.pr .mod [.pr .int1 [.pr .add [.pr .add [.pr .add [.pr .mul [.var 0, .cst (.int 1140671)], .pr .mul [.pr .mul [.cst (.int 27644437), .var 1], .var 1]], .pr .mul [.cst (.int 131), .var 1]], .cst (.int 19)]], .cst (.int 2147483629)]), .asg (.name 2) (.pr .mod [.pr .int1 [.pr .add [.pr .add [.pr .mul [.var 2, .var 2], .pr .mul [.cst (.int 62089), .var 1]], .cst (.int 32416187)]], .cst (.int 2147483587)]), .ret (.pr .mod [.pr .int1 [.pr .mul [.var 2, .cst (.int 48271)]], .cst (.int 2147483647)])]
def h1 (s i : Int) : Int := (s * 1140671 + 27644437 * i * i + 131 * i + 19) % 2147483629
def h2 (s i : Int) : Int := (h1 s i * h1 s i + 62089 * i + 32416187) % 2147483587
def h3 (s i : Int) : Int := (h2 s i * 48271) % 2147483647
theorem h1_range (s i) : 0 ≤ h1 s i ∧ h1 s i < 2147483629 := by unfold h1; omega
theorem h2_range (s i) : 0 ≤ h2 s i ∧ h2 s i < 2147483587 := by unfold h2; omega
theorem h3_range (s i) : 0 ≤ h3 s i ∧ h3 s i < 2147483647 := by unfold h3; omega
theorem law_hash {T : Tab} {f : Nat} (hf : T f = some ⟨2, [], gb__law_hash⟩) (n : Nat) (s i : Int) (hs : s.natAbs < 10000000000) (hi : i.natAbs < 10000000000000) :
    callN T (n + 1) f [.im (.int s), .im (.int i)] = .ret (.im (.int (h3 s i))) [] := by
  rw [callN_succ hf rfl]
  have p1 := pr_mul' s 1140671 (by omega) (by omega)
  have p2 := pr_mul' 27644437 i (by omega) (by omega)
  have p3 := pr_mul' (27644437 * i) i (by omega) (by omega)
  have p4 := pr_mul' 131 i (by omega) (by omega)
  have p5 := pr_mul' 62089 i (by omega) (by omega)
  have r1 := h1_range s i
  have r2 := h2_range s i
  have p6 := pr_mul' (h1 s i) (h1 s i) (by omega) (by omega)
  have p7 := pr_mul' (h2 s i) 48271 (by omega) (by omega)
  have e1 : (s * 1140671 + 27644437 * i * i + 131 * i + 19) % 2147483629 = h1 s i := rfl
  have e2 : (h1 s i * h1 s i + 62089 * i + 32416187) % 2147483587 = h2 s i := rfl
  simp [gb__law_hash, p1, p2, p3, p4, p5, pr_mod, e1, p6, e2, p7]
  rfl
/-- a generator behind at most k draws -/
def Gen (k : Nat) (o : O) : Prop := ∃ g0 g1 g2 : Int, o = .ls [.int g0, .int g1, .int g2] ∧ 0 ≤ g1 ∧ g1 < 2147483647 ∧ 0 ≤ g2 ∧ g2 ≤ 10000 + 4 * k
theorem Gen.mono {k j o} (h : Gen k o) (hk : k ≤ j) : Gen j o := by
  obtain ⟨g0, g1, g2, e, h1, h2, h3, h4⟩ := h
  exact ⟨g0, g1, g2, e, h1, h2, h3, by omega⟩
def gb__law_random (i__law_hash : Nat) : List St := [.ite (.pr .gt [.pr .idx [.var 0, .cst (.int 0)], .cst (.int 0)]) [.asg (.name 2) (.pr .mod [.pr .int1 [.pr .idx [.var 0, .cst (.int 0)]], .var 1]), .setix 0 (.cst (.int 0)) (.pr .fdiv [.pr .idx [.var 0, .cst (.int 0)], .var 1]), .ret (.var 2)] [], .asg (.name 2) (.cst (.int 0)), .for_ (.name 3) (.rng [.pr .add [.cst (.int 1), .pr .fdiv [.pr .bitlen [.var 1], .cst (.int 30)]]]) [.setix 0 (.cst (.int 2)) (.pr .add [.pr .idx [.var 0, .cst (.int 2)], .cst (.int 1)]), .asg (.name 2) (.pr .add [.pr .mul [.var 2, .cst (.int 2147483587)], .call i__law_hash [.pr .idx [.var 0, .cst (.int 1)], .pr .idx [.var 0, .cst (.int 2)]]])], .ret (.pr .mod [.pr .int1 [.var 2], .var 1])]
theorem pr_bitlen (b : Nat) (h : b ≠ 0) : prim .bitlen [.int b] = some (.im (.int ((b.log2 : Int) + 1))) := by
  show some (O.im (.int (if (b : Int) = 0 then 0 else (b : Int).natAbs.log2 + 1))) = _
  have : ¬ (b : Int) = 0 := by omega
  simp [h]
theorem law_random {T : Tab} {f g : Nat} (hf : T f = some ⟨2, [0], gb__law_random g⟩) (hg : T g = some ⟨2, [], gb__law_hash⟩) (n k b : Nat) (o : O) (ho : Gen k o) (hk : k ≤ 1000000000) (hb : 1 ≤ b) (hb' : b < 1152921504606846976) :
    Ends (callN T (n + 2) f [o, .im (.int b)]) fun o1 fin => ∃ r : Nat, ∃ o', o1 = .im (.int r) ∧ fin = [o'] ∧ r < b ∧ Gen (k + 1) o' := by
  obtain ⟨g0, g1, g2, rfl, hg1, hg1', hg2, hg2'⟩ := ho
  have hl : b.log2 < 60 := (Nat.log2_lt (by omega)).mpr (by omega)
  rw [callN_succ hf rfl]
  by_cases h0 : 0 < g0
  · have e1 := pr_mod g0 b (by omega)
    have e2 := pr_fdiv g0 b (by omega) (by simp; omega)
    have h3 : 0 ≤ g0 % b := Int.emod_nonneg _ (by omega)
    have h4 := Int.emod_lt_of_pos g0 (b := b) (by omega)
    simp [gb__law_random, h0, e1, e2, finals_one]
    refine ⟨(g0 % b).toNat, by omega, by omega, ?_⟩
    exact ⟨_, _, _, rfl, hg1, hg1', hg2, by omega⟩
  · have e1 := pr_bitlen b (by omega)
    have e2 := pr_fdiv ((b.log2 : Int) + 1) 30 (by omega) (by decide)
    have hc : 1 + ((b.log2 : Int) + 1) / 30 = ((1 + (b.log2 + 1) / 30 : Nat) : Int) := by omega
    generalize hcc : 1 + (b.log2 + 1) / 30 = c at hc
    have hc3 : c ≤ 3 := by omega
    simp [gb__law_random, h0]
    refine rng_E (lo := 0) (n := c) (fun j ε => ∃ d : Nat, ε 0 = some (.ls [.int g0, .int g1, .int (g2 + j)]) ∧ ε 1 = some (.im (.int b)) ∧ ε 2 = some (.im (.int d)) ∧ d < 4294967296 ^ j) ?_ ?_ ?_ ?_
    · simp [e1, e2, hc]
      rw [itR_nat _ _ (by omega)]
    · exact ⟨0, by simp, by simp, by simp, by simp⟩
    · rintro j ε hj ⟨d, i0, i1, i2, i3⟩
      have hP : 4294967296 ^ j ≤ 4294967296 ^ 3 := Nat.pow_le_pow_right (by omega) (by omega)
      have p1 := pr_mul' d 2147483587 (by simp; omega) (by omega)
      have hh := law_hash hg n g1 (g2 + j + 1) (by omega) (by omega)
      simp [i0, i1, i2, p1, sg_of hg, hh]
      have := h3_range g1 (g2 + j + 1)
      refine ⟨by omega, d * 2147483587 + (h3 g1 (g2 + j + 1)).toNat, by omega, ?_⟩
      rw [Nat.pow_succ]
      omega
    · rintro ε ⟨d, i0, i1, i2, i3⟩
      have e3 := pr_mod d b (by omega)
      have h3 : 0 ≤ (d : Int) % b := Int.emod_nonneg _ (by omega)
      have h4 := Int.emod_lt_of_pos (d : Int) (b := b) (by omega)
      simp [i0, i1, i2, e3, finals_one]
      refine ⟨((d : Int) % b).toNat, by omega, by omega, ?_⟩
      exact ⟨_, _, _, rfl, hg1, hg1', by omega, by omega⟩
end Ev
end
section
set_option linter.all false
set_option maxRecDepth 100000
set_option maxHeartbeats 4000000
/-! The law's cells, generators, what is the same, what is refused. -/
namespace Ev
open PySem Gr
theorem dints_ints (ns : List Int) : dints (ns.map D.int) = some ns := by
  induction ns with
  | nil => rfl
  | cons x xs ih => simp [dints, ih]
theorem pr_sum1_ints (ns : List Int) : prim .sum1 [.lst (ns.map D.int)] = some (.im (.int ns.sum)) := by
  show (match dints (ns.map D.int) with | some ns => some (O.im (.int ns.sum)) | none => none) = _
  rw [dints_ints]
theorem pr_slc_scr1 (ns : List Int) : prim (.slc false true) [.scr ns, .int 1] = some (.ls ((ns.take 1).map D.int)) := by
  have := pr_slc_to (ns.map D.int) 1
  have e : prim (.slc false true) [.scr ns, .int 1] = prim (.slc false true) [.lst (ns.map D.int), .int 1] := rfl
  rw [e]
  simp [List.map_take]
def gb__law_cell : List St := [.ite (.pr .lt [.var 1, .pr .len [.var 0]]) [.ret (.pr .idx [.var 0, .var 1])] [], .ret (.pr .mod [.pr .sum1 [.pr (.slc false true) [.var 0, .cst (.int 1)]], .cst (.int 1000003)])]
def cellI (ns : List Int) (i : Nat) : Int := (ns[i]?).getD ((ns.take 1).sum % 1000003)
theorem law_cell {T : Tab} {f : Nat} (hf : T f = some ⟨2, [], gb__law_cell⟩) (n : Nat) (ns : List Int) (i : Nat) : callN T (n + 1) f [.im (.scr ns), .im (.int i)] = .ret (.im (.int (cellI ns i))) [] := by
  rw [callN_succ hf rfl]
  by_cases h : i < ns.length
  · simp [gb__law_cell, h, cellI]
  · have : ns[i]? = none := by simp; omega
    have e := pr_mod ((ns.take 1).sum) 1000003 (by decide)
    simp [gb__law_cell, h, cellI, pr_slc_scr1, pr_sum1_ints, e, -List.map_take]
def gb__law_generator (i__law_cell : Nat) : List St := [.asg (.name 2) (.call i__law_cell [.var 0, .var 1]), .ret (.lst [.pr .mod [.pr .int1 [.pr .max2 [.pr .sub [.var 2, .pr .pow [.cst (.int 10), .cst (.int 18)]], .cst (.int 0)]], .pr .pow [.pr .pow [.cst (.int 10), .cst (.int 60)], .cst (.int 10)]], .pr .mod [.pr .int1 [.var 2], .cst (.int 2147483647)], .pr .mul [.cst (.int 1000), .var 1]])]
theorem law_generator {T : Tab} {f g : Nat} (hf : T f = some ⟨2, [], gb__law_generator g⟩) (hg : T g = some ⟨2, [], gb__law_cell⟩) (n : Nat) (ns : List Int) (i : Nat) (hi : i ≤ 10) :
    Ends (callN T (n + 2) f [.im (.scr ns), .im (.int i)]) fun o fin => fin = [] ∧ Gen 0 o := by
  rw [callN_succ hf rfl]
  have p1 : prim .pow [.int 10, .int 18] = some (.im (.int (10 ^ 18))) := pr_pow 10 18 (by decide)
  have p2 : prim .pow [.int 10, .int 60] = some (.im (.int (10 ^ 60))) := pr_pow 10 60 (by decide)
  have p3 : prim .pow [.int (10 ^ 60), .int 10] = some (.im (.int ((10 ^ 60) ^ 10))) := pr_pow (10 ^ 60) 10 (by decide +kernel)
  have p4 : ∀ x : Int, prim .mod [.int x, .int ((10 ^ 60) ^ 10)] = some (.im (.int (x % (10 ^ 60) ^ 10))) := fun x => pr_mod _ _ (by decide +kernel)
  have p5 : ∀ x : Int, prim .mod [.int x, .int 2147483647] = some (.im (.int (x % 2147483647))) := fun x => pr_mod _ _ (by decide +kernel)
  have p6 := pr_mul' 1000 i (by omega) (by omega)
  have c1 := law_cell hg n ns i
  generalize cellI ns i = s at c1
  generalize ((10 : Int) ^ 60) ^ 10 = A at p3 p4
  generalize (10 : Int) ^ 60 = B at p2 p3
  generalize (10 : Int) ^ 18 = C at p1
  simp [gb__law_generator, p1, p2, p3, p4, p5, p6, sg_of hg, c1, -Int.reducePow]
  exact ⟨_, _, _, rfl, by omega, by omega, by omega, by omega⟩
def gb__law_same (i__law_same : Nat) : List St := [.ite (.or [.pr .is_ [.var 1, .cst .non], .pr .is_ [.var 1, .cst (.bl true)], .pr .is_ [.var 1, .cst (.bl false)]]) [.ret (.ite (.pr .is_ [.var 1, .cst .non]) (.pr .is_ [.var 0, .cst .non]) (.ite (.pr .is_ [.var 1, .cst (.bl true)]) (.pr .is_ [.var 0, .cst (.bl true)]) (.pr .is_ [.var 0, .cst (.bl false)])))] [], .ite (.pr .isi [.var 1, .tup [.gl (.ty "list"), .gl (.ty "tuple")]]) [.ite (.or [.and [.not (.pr .isi [.var 0, .gl (.ty "list")]), .pr .isi [.var 1, .gl (.ty "list")]], .and [.not (.pr .isi [.var 0, .gl (.ty "tuple")]), .pr .isi [.var 1, .gl (.ty "tuple")]]]) [.ret (.cst (.bl false))] [], .ret (.and [.pr .eq [.pr .len [.var 0], .pr .len [.var 1]], .pr .eq [.lc (.var 2) (.name 2) (.rng [.pr .len [.var 1]]) [.not (.call i__law_same [.pr .idx [.var 0, .var 2], .pr .idx [.var 1, .var 2]])] [2], .lst []]])] [], .ite (.pr .isi [.var 1, .gl (.ty "int")]) [.ret (.and [.pr .isi [.var 0, .gl (.ty "int")], .not (.pr .isi [.var 0, .gl (.ty "bool")]), .pr .eq [.var 0, .var 1]])] [], .ret (.and [.pr .isi [.var 0, .gl (.ty "str")], .pr .eq [.var 0, .var 1]])]
@[simp] theorem isi_lt_lst (x) : prim .isi [.lst x, .tup [.ty "list", .ty "tuple"]] = some (.im (.bl true)) := id rfl
@[simp] theorem isi_lt_tup (x) : prim .isi [.tup x, .tup [.ty "list", .ty "tuple"]] = some (.im (.bl true)) := id rfl
@[simp] theorem isi_lt_int (x) : prim .isi [.int x, .tup [.ty "list", .ty "tuple"]] = some (.im (.bl false)) := id rfl
@[simp] theorem isi_lt_str (x) : prim .isi [.str x, .tup [.ty "list", .ty "tuple"]] = some (.im (.bl false)) := id rfl
@[simp] theorem isB_non (b) : D.isB b .non = false := by rw [D.isB]; simp
@[simp] theorem isB_bl (b c) : D.isB b (.bl c) = (c == b) := by rw [D.isB]
@[simp] theorem isB_int (b c) : D.isB b (.int c) = false := by rw [D.isB]; simp
@[simp] theorem isB_str (b c) : D.isB b (.str c) = false := by rw [D.isB]; simp
@[simp] theorem isB_lst (b c) : D.isB b (.lst c) = false := by rw [D.isB]; simp
@[simp] theorem isB_tup (b c) : D.isB b (.tup c) = false := by rw [D.isB]; simp
/-- small data, at most so deep -/
inductive Sm : Nat → D → Prop where
  | non (k) : Sm k .non
  | bl (k b) : Sm k (.bl b)
  | int (k i) : Sm k (.int i)
  | str (k) (s : Str) (h : s.cps.all (· < 0x110000) = true) : Sm k (.str s)
  | lst {k xs} (hl : xs.length ≤ 100000) (h : ∀ x ∈ xs, Sm k x) : Sm (k + 1) (.lst xs)
  | tup {k xs} (hl : xs.length ≤ 100000) (h : ∀ x ∈ xs, Sm k x) : Sm (k + 1) (.tup xs)
theorem Sm.okD {k d} (h : Sm k d) : D.okD d k = true := by
  induction h with
  | non => simp
  | bl => simp
  | int => simp
  | str k s h => simpa using h
  | lst hl h ih => simp [okDs_eq]; exact ih
  | tup hl h ih => simp [okDs_eq]; exact ih
theorem Sm.mono {k d} (h : Sm k d) : ∀ {j}, k ≤ j → Sm j d := by
  induction h with
  | non => intro j _; exact .non _
  | bl => intro j _; exact .bl _ _
  | int => intro j _; exact .int _ _
  | str k s h => intro j _; exact .str _ _ h
  | lst hl h ih =>
    intro j hj
    obtain ⟨j, rfl⟩ : ∃ i, j = i + 1 := ⟨j - 1, by omega⟩
    exact .lst hl fun x hx => ih x hx (by omega)
  | tup hl h ih =>
    intro j hj
    obtain ⟨j, rfl⟩ : ∃ i, j = i + 1 := ⟨j - 1, by omega⟩
    exact .tup hl fun x hx => ih x hx (by omega)
theorem law_same {T : Tab} {f : Nat} (hf : T f = some ⟨2, [], gb__law_same f⟩) {k : Nat} {d : D} (h : Sm k d) : ∀ n : Nat, k < n → callN T n f [.im d, .im d] = .ret (.im (.bl true)) [] := by
  have key : ∀ (n : Nat) (xs : List D) (ε : Env) (d : D), (d = .lst xs ∨ d = .tup xs) → xs.length ≤ 100000 → (∀ x ∈ xs, callN T n f [.im x, .im x] = .ret (.im (.bl true)) []) → ε 0 = some (.im d) → ε 1 = some (.im d) →
      evE (callN T n) T.sg (.lc (.var 2) (.name 2) (.rng [.pr .len [.var 1]]) [.not (.call f [.pr .idx [.var 0, .var 2], .pr .idx [.var 1, .var 2]])] [2]) ε = .ok (.ls []) (rez [2] ε) := by
    intro n xs ε d hd hl hx h0 h1
    have := lc_filter0 (cl := callN T n) (sg := T.sg) (e := .var 2) (q := .not (.call f [.pr .idx [.var 0, .var 2], .pr .idx [.var 1, .var 2]])) (tg := .name 2) (it := .rng [.pr .len [.var 1]]) (own := [2]) (ε := ε) dn (List.range xs.length) (fun _ => false) dn ?_ ?_ ?_
    · simpa using this
    · rcases hd with rfl | rfl <;> simp [h1, itR_nat _ _ (show xs.length ≤ 16777216 by omega), rngD_zero]
    · simp; omega
    · intro i hi
      have hi : i < xs.length := by simpa using hi
      have hc := hx xs[i] (List.getElem_mem hi)
      refine ⟨up (wipe [2] ε) 2 (.im (.int i)), ?_, by simp⟩
      rcases hd with rfl | rfl <;> simp [h0, h1, hi, sg_of hf, hc]
  induction h with
  | non => 
    intro n hn
    obtain ⟨n, rfl⟩ : ∃ i, n = i + 1 := ⟨n - 1, by omega⟩
    rw [callN_succ hf rfl]; simp [gb__law_same]
  | bl k b =>
    intro n hn
    obtain ⟨n, rfl⟩ : ∃ i, n = i + 1 := ⟨n - 1, by omega⟩
    rw [callN_succ hf rfl]; cases b <;> simp [gb__law_same]
  | int =>
    intro n hn
    obtain ⟨n, rfl⟩ : ∃ i, n = i + 1 := ⟨n - 1, by omega⟩
    rw [callN_succ hf rfl]; simp [gb__law_same]
  | str k s h =>
    intro n hn
    obtain ⟨n, rfl⟩ : ∃ i, n = i + 1 := ⟨n - 1, by omega⟩
    have e := pr_eq (.str s) (.str s) (by simp only [okD_str, h]; rfl)
    rw [callN_succ hf rfl]; simp [gb__law_same, e]
  | @lst k xs hl h ih =>
    intro n hn
    obtain ⟨n, rfl⟩ : ∃ i, n = i + 1 := ⟨n - 1, by omega⟩
    have hk := key n xs
    rw [callN_succ hf rfl]
    simp [gb__law_same]
    rw [hk _ (.lst xs) (.inl rfl) hl (fun x hx => ih x hx n (by omega)) (by simp) (by simp)]
    simp
  | @tup k xs hl h ih =>
    intro n hn
    obtain ⟨n, rfl⟩ : ∃ i, n = i + 1 := ⟨n - 1, by omega⟩
    have hk := key n xs
    rw [callN_succ hf rfl]
    simp [gb__law_same]
    rw [hk _ (.tup xs) (.inr rfl) hl (fun x hx => ih x hx n (by omega)) (by simp) (by simp)]
    simp
end Ev
end
section
set_option linter.all false
set_option maxRecDepth 100000
set_option maxHeartbeats 4000000
/-! What is raised, what is refused. -/
namespace Ev
open PySem Gr
def gb__law_call : List St := [.ite (.pr .eq [.pr .len [.var 1], .cst (.int 1)]) [.ret (.callv 0 [.pr .idx [.var 1, .cst (.int 0)]])] [], .ite (.pr .eq [.pr .len [.var 1], .cst (.int 2)]) [.ret (.callv 0 [.pr .idx [.var 1, .cst (.int 0)], .pr .idx [.var 1, .cst (.int 1)]])] [], .ite (.pr .eq [.pr .len [.var 1], .cst (.int 3)]) [.ret (.callv 0 [.pr .idx [.var 1, .cst (.int 0)], .pr .idx [.var 1, .cst (.int 1)], .pr .idx [.var 1, .cst (.int 2)]])] [], .ite (.pr .eq [.pr .len [.var 1], .cst (.int 4)]) [.ret (.callv 0 [.pr .idx [.var 1, .cst (.int 0)], .pr .idx [.var 1, .cst (.int 1)], .pr .idx [.var 1, .cst (.int 2)], .pr .idx [.var 1, .cst (.int 3)]])] [], .ite (.pr .eq [.pr .len [.var 1], .cst (.int 5)]) [.ret (.callv 0 [.pr .idx [.var 1, .cst (.int 0)], .pr .idx [.var 1, .cst (.int 1)], .pr .idx [.var 1, .cst (.int 2)], .pr .idx [.var 1, .cst (.int 3)], .pr .idx [.var 1, .cst (.int 4)]])] [], .ret (.callv 0 [.pr .idx [.var 1, .cst (.int 0)], .pr .idx [.var 1, .cst (.int 1)], .pr .idx [.var 1, .cst (.int 2)], .pr .idx [.var 1, .cst (.int 3)], .pr .idx [.var 1, .cst (.int 4)], .pr .idx [.var 1, .cst (.int 5)]])]
def gb__law_mark (i__law_call : Nat) : List St := [.asg (.name 2) (.cst .non), .tryM (.call i__law_call [.var 0, .var 1]) 0 2 3, .ret (.var 2)]
def gb__law_raised (i__law_mark i__law_is_kind i__law_same : Nat) : List St := [.asg (.name 4) (.call i__law_mark [.var 0, .var 1]), .ret (.and [.pr .isn [.var 4, .cst .non], .call i__law_is_kind [.var 4, .var 2], .call i__law_same [.attr (.var 4), .var 3]])]
def gb__law_refused (i__law_raised : Nat) : List St := [.asg (.name 5) (.pr .add [.pr .add [.pr (.slc false true) [.var 1, .var 2], .lst [.var 4]], .lc (.cst .non) (.name 6) (.pr (.slc true false) [.var 1, .pr .add [.var 2, .cst (.int 1)]]) [] [6]]), .ite (.not (.call i__law_raised [.var 0, .var 5, .var 3, .var 4])) [.ret (.cst (.bl false))] [], .ret (.call i__law_raised [.var 0, .pr .add [.pr .add [.pr (.slc false true) [.var 1, .var 2], .lst [.var 4]], .pr (.slc true false) [.var 1, .pr .add [.var 2, .cst (.int 1)]]], .var 3, .var 4])]
def gb__law_all_refused (i__law_refused : Nat) : List St := [.for_ (.tup [.name 4, .name 5]) (.var 0) [.ite (.pr .ne [.lc (.var 6) (.name 6) (.var 3) [.not (.call i__law_refused [.var 4, .var 5, .var 1, .var 2, .var 6])] [6], .lst []]) [.ret (.cst (.bl false))] []], .ret (.cst (.bl true))]
theorem law_call_exc {T : Tab} {f g n c v} (hf : T f = some ⟨2, [], gb__law_call⟩) (hs : T.sg g = []) (args : List D) (h1 : 1 ≤ args.length) (h6 : args.length ≤ 6) (h : callN T n g (args.map O.im) = .exc c v []) :
    callN T (n + 1) f [.im (.fn g), .im (.lst args)] = .exc c v [] := by
  rw [callN_succ hf rfl]
  match args, h1, h6, h with
  | [a], _, _, h => simp at h; simp [gb__law_call, evE_callv, hs, h]
  | [a, b], _, _, h => simp at h; simp [gb__law_call, evE_callv, hs, h]
  | [a, b, c], _, _, h => simp at h; simp [gb__law_call, evE_callv, hs, h]
  | [a, b, c, d], _, _, h => simp at h; simp [gb__law_call, evE_callv, hs, h]
  | [a, b, c, d, e], _, _, h => simp at h; simp [gb__law_call, evE_callv, hs, h]
  | [a, b, c, d, e, i], _, _, h => simp at h; simp [gb__law_call, evE_callv, hs, h]
theorem law_mark_exc {T : Tab} {f i g n c v} (hf : T f = some ⟨2, [], gb__law_mark i⟩) (hi : T i = some ⟨2, [], gb__law_call⟩) (hs : T.sg g = []) (args : List D) (h1 : 1 ≤ args.length) (h6 : args.length ≤ 6) (h : callN T n g (args.map O.im) = .exc c v []) :
    callN T (n + 2) f [.im (.fn g), .im (.lst args)] = .ret (.im (.exc c v)) [] := by
  have := law_call_exc hi hs args h1 h6 h
  rw [callN_succ hf rfl]
  simp [gb__law_mark, sg_of hi, this]
/-- the defs that ask for errors -/
structure RefT (T : Tab) where
  call : Nat
  hcall : T call = some ⟨2, [], gb__law_call⟩
  mark : Nat
  hmark : T mark = some ⟨2, [], gb__law_mark call⟩
  same : Nat
  hsame : T same = some ⟨2, [], gb__law_same same⟩
  kind : Nat
  hkind : T.sg kind = []
  raised : Nat
  hraised : T raised = some ⟨4, [], gb__law_raised mark kind same⟩
  refused : Nat
  hrefused : T refused = some ⟨5, [], gb__law_refused raised⟩
  all : Nat
  hall : T all = some ⟨4, [], gb__law_all_refused refused⟩
section refs
variable {T : Tab} (r : RefT T)
/-- an error that is_kind knows by a word -/
def RefT.Knows (c : Nat) (w : Str) (N : Nat) : Prop := ∀ n v, N ≤ n → callN T n r.kind [.im (.exc c v), .im (.str w)] = .ret (.im (.bl true)) []
theorem RefT.raised_ok {g n c k N v w} (hs : T.sg g = []) (args : List D) (h1 : 1 ≤ args.length) (h6 : args.length ≤ 6) (h : callN T n g (args.map O.im) = .exc c v []) (hw : r.Knows c w N) (hN : N ≤ n) (hv : Sm k v) (hk : k ≤ n) :
    callN T (n + 3) r.raised [.im (.fn g), .im (.lst args), .im (.str w), .im v] = .ret (.im (.bl true)) [] := by
  have c1 := law_mark_exc r.hmark r.hcall hs args h1 h6 h
  have c2 := hw (n + 2) v (by omega)
  have c3 := law_same r.hsame hv (n + 2) (by omega)
  rw [callN_succ r.hraised rfl]
  simp [gb__law_raised, sg_of r.hmark, c1, r.hkind, c2, sg_of r.hsame, c3]
theorem pr_slc_from_s (xs) (k : Nat) : prim (.slc true false) [.lst xs, .int ((k : Int) + 1)] = some (.ls (xs.drop (k + 1))) := pr_slc_from xs (k + 1)
theorem RefT.refused_ok {g n c k N a w} {v : D} (hs : T.sg g = []) (args : List D) (ha : a < args.length) (h6 : args.length ≤ 6)
    (hb : callN T n g ((args.take a ++ [v] ++ List.replicate (args.length - (a + 1)) D.non).map O.im) = .exc c v []) (h : callN T n g ((args.take a ++ [v] ++ args.drop (a + 1)).map O.im) = .exc c v [])
    (hw : r.Knows c w N) (hN : N ≤ n) (hv : Sm k v) (hk : k ≤ n) :
    callN T (n + 4) r.refused [.im (.fn g), .im (.lst args), .im (.int a), .im (.str w), .im v] = .ret (.im (.bl true)) [] := by
  have c1 := r.raised_ok hs _ (by simp; omega) (by simp; omega) hb hw hN hv hk
  have c2 := r.raised_ok hs _ (by simp; omega) (by simp; omega) h hw hN hv hk
  rw [callN_succ r.hrefused rfl]
  have hlen : min a args.length + (1 + (args.length - (a + 1))) ≤ 16777216 := by omega
  have key : ∀ ε : Env, ε 1 = some (.im (.lst args)) → ε 2 = some (.im (.int a)) → evE (callN T (n + 3)) T.sg (.lc (.cst .non) (.name 6) (.pr (.slc true false) [.var 1, .pr .add [.var 2, .cst (.int 1)]]) [] [6]) ε = .ok (.ls (List.replicate (args.length - (a + 1)) D.non)) (rez [6] ε) := by
    intro ε e1 e2
    rw [lc_map0 id (args.drop (a + 1)) (fun _ => D.non)]
    · have : (args.drop (a + 1)).map (fun _ => D.non) = List.replicate (args.length - (a + 1)) D.non := by rw [List.map_const', List.length_drop]
      rw [this]
    · simp [e1, e2, pr_slc_from_s]
    · simp; omega
    · intro x hx
      exact ⟨up (wipe [6] ε) 6 (.im x), by simp, by simp⟩
  have q1 := pr_add_lst (args.take a) [v] (by simp; omega)
  have q2 := pr_add_lst (args.take a ++ [v]) (List.replicate (args.length - (a + 1)) D.non) (by simp; omega)
  have q3 := pr_add_lst (args.take a ++ [v]) (args.drop (a + 1)) (by simp; omega)
  simp [gb__law_refused, pr_slc_to, pr_slc_from_s, key, sg_of r.hraised, q1, q2, q3, c1, c2, -List.append_assoc]
theorem RefT.all_ok {deeds : List (Nat × List D)} {wrongs : List D} {n : Nat} {a : Nat} {w : Str} (hl : wrongs.length ≤ 10000)
    (h : ∀ p ∈ deeds, ∀ v ∈ wrongs, callN T n r.refused [.im (.fn p.1), .im (.lst p.2), .im (.int a), .im (.str w), .im v] = .ret (.im (.bl true)) []) :
    callN T (n + 1) r.all [.im (.lst (deeds.map fun p => .tup [.fn p.1, .lst p.2])), .im (.int a), .im (.str w), .im (.lst wrongs)] = .ret (.im (.bl true)) [] := by
  rw [callN_succ r.hall rfl]
  simp [gb__law_all_refused]
  refine for_F0 (fun p : Nat × List D => .tup [.fn p.1, .lst p.2]) deeds (fun _ ε => ε 1 = some (.im (.int a)) ∧ ε 2 = some (.im (.str w)) ∧ ε 3 = some (.im (.lst wrongs))) (by simp) (by simp) ?_ ?_
  · rintro done ⟨g, args⟩ rest ε e ⟨i1, i2, i3⟩
    have hp := fun v hv => h (g, args) (by rw [← e]; simp) v hv
    simp [i1, i2, i3]
    rw [lc_none0 id wrongs]
    · simp [i1, i2, i3]
    · simp [i3]
    · omega
    · intro v hv
      exact ⟨_, by simp [i1, i2, i3, sg_of r.hrefused, hp v hv]; rfl, by simp⟩
  · rintro ε ⟨i1, i2, i3⟩
    simp
end refs
end Ev
end
section
set_option linter.all false
set_option maxRecDepth 100000
set_option maxHeartbeats 4000000
/-! The law's webs. -/
namespace Ev
open PySem Gr
def gb__law_web (i__law_random : Nat) : List St := [.asg (.name 3) (.pr .add [.cst (.int 1), .call i__law_random [.var 0, .var 1]]), .ite (.pr .eq [.var 3, .cst (.int 1)]) [.ret (.tup [.cst (.int 1), .lst []])] [], .asg (.name 4) (.lst []), .for_ (.name 5) (.rng [.call i__law_random [.var 0, .pr .add [.var 2, .cst (.int 1)]]]) [.asg (.name 6) (.call i__law_random [.var 0, .var 3]), .asg (.name 7) (.pr .mod [.pr .add [.pr .add [.var 6, .cst (.int 1)], .call i__law_random [.var 0, .pr .sub [.var 3, .cst (.int 1)]]], .var 3]), .exp (.app 4 (.tup [.pr .min2 [.var 6, .var 7], .pr .max2 [.var 6, .var 7]]))], .ret (.tup [.var 3, .pr .sorted1 [.var 4]])]
def gb__law_whole_web (i__law_random : Nat) : List St := [.asg (.name 3) (.pr .add [.cst (.int 2), .call i__law_random [.var 0, .pr .sub [.var 1, .cst (.int 1)]]]), .asg (.name 4) (.lc (.tup [.call i__law_random [.var 0, .var 7], .var 7]) (.name 7) (.rng [.cst (.int 1), .var 3]) [] [7]), .whl (.and [.pr .lt [.pr .len [.var 4], .var 2], .pr .gt [.call i__law_random [.var 0, .cst (.int 4)], .cst (.int 0)]]) [.asg (.name 5) (.call i__law_random [.var 0, .var 3]), .asg (.name 6) (.pr .mod [.pr .add [.pr .add [.var 5, .cst (.int 1)], .call i__law_random [.var 0, .pr .sub [.var 3, .cst (.int 1)]]], .var 3]), .exp (.app 4 (.tup [.pr .min2 [.var 5, .var 6], .pr .max2 [.var 5, .var 6]]))], .ret (.tup [.var 3, .pr .sorted1 [.var 4]])]
def gb__law_some_web (i__law_random i__law_web i__law_whole_web : Nat) : List St := [.ret (.ite (.pr .eq [.call i__law_random [.var 0, .cst (.int 3)], .cst (.int 0)]) (.call i__law_web [.var 0, .var 1, .var 2]) (.call i__law_whole_web [.var 0, .pr .max2 [.cst (.int 2), .var 1], .var 2]))]
structure RndT (T : Tab) where
  hash : Nat
  hhash : T hash = some ⟨2, [], gb__law_hash⟩
  rnd : Nat
  hrnd : T rnd = some ⟨2, [0], gb__law_random hash⟩
theorem RndT.rnd_ok {T : Tab} (g : RndT T) (n k b : Nat) (o : O) (ho : Gen k o) (hk : k ≤ 1000000000) (hb : 1 ≤ b) (hb' : b < 1152921504606846976) :
    ∃ r : Nat, ∃ o', callN T (n + 2) g.rnd [o, .im (.int b)] = .ret (.im (.int r)) [o'] ∧ r < b ∧ Gen (k + 1) o' := by
  obtain ⟨o1, fin, hc, r, o', rfl, rfl, h1, h2⟩ := law_random g.hrnd g.hhash n k b o ho hk hb hb'
  exact ⟨r, o', hc, h1, h2⟩
theorem mod_cast' {x : Int} {y m : Nat} (h : x = y) : x % (m : Int) = ((y % m : Nat) : Int) := by rw [h, Int.natCast_emod]
theorem other_ne {a c m : Nat} (ha : a < m) (hc : c < m - 1) : (a + 1 + c) % m ≠ a ∧ (a + 1 + c) % m < m := by
  refine ⟨?_, Nat.mod_lt _ (by omega)⟩
  by_cases h : a + 1 + c < m
  · rw [Nat.mod_eq_of_lt h]; omega
  · rw [Nat.mod_eq_sub_mod (by omega), Nat.mod_eq_of_lt (by omega)]; omega
def webO (m : Nat) (ts : Ties) : O := .tup [.im (.int m), .ls (ts.map pD)]
theorem webO_er (m ts) : (webO m ts).er = webD m ts := by simp [webO, webD]
theorem web_of_told {m : Nat} {told : Ties} (h1 : 1 ≤ m) (h2 : m ≤ 10) (h3 : told.length ≤ 24) (h4 : ∀ p ∈ told, p.1 < p.2 ∧ p.2 < m) : Web m (told.mergeSort leP) where
  m1 := h1
  m10 := h2
  len := by simpa using h3
  ok p hp := h4 p ((List.mergeSort_perm told leP).mem_iff.mp hp)
  srt := List.pairwise_mergeSort leP_trans leP_total told
section webs
variable {T : Tab} (g : RndT T)
theorem RndT.web_ok {f : Nat} (hf : T f = some ⟨3, [0], gb__law_web g.rnd⟩) (n k most many : Nat) (o : O) (ho : Gen k o) (hk : k ≤ 100000000) (hm : 1 ≤ most) (hm' : most ≤ 10) (hn : many ≤ 24) :
    ∃ m ts o', callN T (n + 3) f [o, .im (.int most), .im (.int many)] = .ret (webO m ts) [o'] ∧ Web m ts ∧ m ≤ most ∧ ts.length ≤ many ∧ Gen (k + 200) o' := by
  suffices h : Ends (callN T (n + 3) f [o, .im (.int most), .im (.int many)]) fun o1 fin => ∃ m ts o', o1 = webO m ts ∧ fin = [o'] ∧ Web m ts ∧ m ≤ most ∧ ts.length ≤ many ∧ Gen (k + 200) o' by
    obtain ⟨o1, fin, h0, m, ts, o', rfl, rfl, h⟩ := h
    exact ⟨m, ts, o', h0, h⟩
  obtain ⟨r1, o1, c1, hr1, hG1⟩ := g.rnd_ok n k most o ho (by omega) hm (by omega)
  obtain ⟨m, em⟩ : ∃ m : Nat, (1 : Int) + r1 = m := ⟨1 + r1, by omega⟩
  rw [callN_succ hf rfl]
  by_cases h1 : m = 1
  · subst h1
    simp [gb__law_web, sg_of g.hrnd, c1, em, finals_one]
    exact ⟨1, [], by simp [webO], ⟨by omega, by omega, by simp, by simp, by simp⟩, by omega, by simp, hG1.mono (by omega)⟩
  · obtain ⟨n1, en1⟩ : ∃ n1 : Nat, (many : Int) + 1 = n1 := ⟨many + 1, by omega⟩
    obtain ⟨r2, o2, c2, hr2, hG2⟩ := g.rnd_ok n (k + 1) n1 o1 hG1 (by omega) (by omega) (by omega)
    have h1' : ¬ (m : Int) = 1 := by omega
    obtain ⟨m1, em1⟩ : ∃ m1 : Nat, (m : Int) - 1 = m1 := ⟨m - 1, by omega⟩
    simp [gb__law_web, sg_of g.hrnd, c1, em, h1']
    refine rngx_E (lo := 0) (n := r2) (up (up (up (up (fun i => [o, O.im (.int most), O.im (.int many)][i]?) 0 o1) 3 (.im (.int m))) 4 (.ls [])) 0 o2)
      (fun j ε => ∃ (o : O) (told : Ties), ε 0 = some o ∧ Gen (k + 2 + 2 * j) o ∧ ε 3 = some (.im (.int m)) ∧ ε 4 = some (.ls (told.map pD)) ∧ told.length = j ∧ ∀ p ∈ told, p.1 < p.2 ∧ p.2 < m) ?_ ?_ ?_ ?_
    · simp [sg_of g.hrnd, en1, c2]
      rw [itR_nat _ _ (by omega)]
    · exact ⟨o2, [], by simp, hG2, by simp, by simp, by simp, by simp⟩
    · rintro j ε hj ⟨o3, told, i0, hG3, i3, i4, hl, hp⟩
      obtain ⟨a, o4, c4, ha, hG4⟩ := g.rnd_ok n _ m o3 hG3 (by omega) (by omega) (by omega)
      obtain ⟨b, o5, c5, hb, hG5⟩ := g.rnd_ok n _ m1 o4 hG4 (by omega) (by omega) (by omega)
      have hne := other_ne ha (show b < m - 1 by omega)
      have ec := pr_mod ((a : Int) + 1 + b) m (by omega)
      rw [mod_cast' (y := a + 1 + b) (by omega)] at ec
      generalize (a + 1 + b) % m = c at hne ec
      simp [i0, i3, i4, sg_of g.hrnd, c4, em1, c5, ec, hl]
      rw [appTo_ls (i := 4) (ds := told.map pD) (by simp [i4]) (by simp; omega)]
      simp [i3]
      refine ⟨hG5.mono (by omega), told ++ [(min a c, max a c)], by simp [pD], by simp [hl], ?_⟩
      intro p q hpq
      rw [List.mem_append, List.mem_singleton] at hpq
      rcases hpq with hpq | hpq
      · exact hp _ hpq
      · cases hpq; omega
    · rintro ε ⟨o3, told, i0, hG3, i3, i4, hl, hp⟩
      simp [i3, i4, pr_sorted_pD, finals_one, i0]
      exact ⟨m, _, rfl, web_of_told (by omega) (by omega) (by omega) hp, by omega, by simp; omega, hG3.mono (by omega)⟩
theorem RndT.whole_ok {f : Nat} (hf : T f = some ⟨3, [0], gb__law_whole_web g.rnd⟩) (n k most many : Nat) (o : O) (ho : Gen k o) (hk : k ≤ 100000000) (hm : 2 ≤ most) (hm' : most ≤ 10) (hn : many ≤ 24) (hmn : most ≤ many + 1) :
    ∃ m ts o', callN T (n + 3) f [o, .im (.int most), .im (.int many)] = .ret (webO m ts) [o'] ∧ Web m ts ∧ 2 ≤ m ∧ m ≤ most ∧ ts.length ≤ many ∧ Gen (k + 200) o' := by
  suffices h : Ends (callN T (n + 3) f [o, .im (.int most), .im (.int many)]) fun o1 fin => ∃ m ts o', o1 = webO m ts ∧ fin = [o'] ∧ Web m ts ∧ 2 ≤ m ∧ m ≤ most ∧ ts.length ≤ many ∧ Gen (k + 200) o' by
    obtain ⟨o1, fin, h0, m, ts, o', rfl, rfl, h⟩ := h
    exact ⟨m, ts, o', h0, h⟩
  obtain ⟨most1, emost⟩ : ∃ m1 : Nat, (most : Int) - 1 = m1 := ⟨most - 1, by omega⟩
  obtain ⟨r1, o1, c1, hr1, hG1⟩ := g.rnd_ok n k most1 o ho (by omega) (by omega) (by omega)
  obtain ⟨m, em⟩ : ∃ m : Nat, (2 : Int) + r1 = m := ⟨2 + r1, by omega⟩
  rw [callN_succ hf rfl]
  simp [gb__law_whole_web, sg_of g.hrnd, c1, emost, em]
  have hlc := lc_inv (cl := callN T (n + 2)) (sg := T.sg) (e := .tup [.call g.rnd [.var 0, .var 7], .var 7]) (tg := .name 7) (it := .rng [.cst (.int 1), .var 3]) (ifs := []) (own := [7])
    (ε := up (up (fun i => [o, O.im (.int most), O.im (.int many)][i]?) 0 o1) 3 (.im (.int m))) (ε1 := up (up (fun i => [o, O.im (.int most), O.im (.int many)][i]?) 0 o1) 3 (.im (.int m)))
    dn (List.range' 1 (m - 1)) (by simp; rw [itR_two _ _ _ (by omega)]; rw [show (1 : Int) = ((1 : Nat) : Int) from rfl, rngD_nat, show ((m : Int) - (1 : Nat)).toNat = m - 1 by omega]) (by simp; omega)
    (fun done os ε => ∃ (o : O) (told : Ties), ε 0 = some o ∧ ε 2 = some (.im (.int many)) ∧ ε 3 = some (.im (.int m)) ∧ Gen (k + 1 + done.length) o ∧ os = (told.map pD).map O.im ∧ told.length = done.length ∧ ∀ p ∈ told, p.1 < p.2 ∧ p.2 < m)
    ⟨o1, [], by simp, by simp, by simp, hG1, by simp, by simp, by simp⟩ (by
      rintro done x rest os ε e ⟨o3, told, i0, i2, i3, hG3, rfl, hl, hp⟩
      have hx : x ∈ List.range' 1 (m - 1) := by rw [← e]; simp
      have hd : done.length < m - 1 := by have := congrArg List.length e; simp at this; omega
      rw [List.mem_range'_1] at hx
      obtain ⟨a, o4, c4, ha, hG4⟩ := g.rnd_ok n _ x o3 hG3 (by omega) (by omega) (by omega)
      refine ⟨some (.im (pD (a, x))), up (up (wipe [7] ε) 7 (.im (.int x))) 0 o4, ?_, o4, told ++ [(a, x)], ?_⟩
      · simp [i0, sg_of g.hrnd, c4, pD]
      · simp [i2, i3, hl]
        refine ⟨hG4.mono (by omega), ?_⟩
        intro p q hpq
        rcases hpq with hpq | ⟨rfl, rfl⟩
        · exact hp _ hpq
        · omega)
  obtain ⟨os, ε1, hlc, o2, told, i0, i2, i3, hG2, rfl, hl, hp⟩ := hlc
  rw [hlc]
  simp [mk_ims, -List.map_map]
  obtain ⟨m1, em1⟩ : ∃ m1 : Nat, (m : Int) - 1 = m1 := ⟨m - 1, by omega⟩
  refine whl_E (many - told.length) (fun j ε => ∃ (o : O) (told : Ties), ε 0 = some o ∧ Gen (k + 50 + 3 * told.length) o ∧ ε 2 = some (.im (.int many)) ∧ ε 3 = some (.im (.int m)) ∧ ε 4 = some (.ls (told.map pD)) ∧ j = many - told.length ∧ told.length ≤ many ∧ ∀ p ∈ told, p.1 < p.2 ∧ p.2 < m)
    (fun ε => ∃ (o : O) (told : Ties), ε 0 = some o ∧ Gen (k + 51 + 3 * told.length) o ∧ ε 3 = some (.im (.int m)) ∧ ε 4 = some (.ls (told.map pD)) ∧ told.length ≤ many ∧ ∀ p ∈ told, p.1 < p.2 ∧ p.2 < m) ?_ (by omega) ?_ ?_
  · exact ⟨o2, told, by simp [i0], hG2.mono (by simp; omega), by simp [i2], by simp [i3], by simp, rfl, by simp at hl; omega, hp⟩
  · rintro j ε ⟨o3, told, i0, hG3, i2, i3, i4, rfl, hl, hp⟩
    by_cases hlt : told.length < many
    · obtain ⟨a, o4, c4, ha, hG4⟩ := g.rnd_ok n _ 4 o3 hG3 (by omega) (by omega) (by omega)
      rw [show ((4 : Nat) : Int) = 4 from rfl] at c4
      by_cases h0 : a = 0
      · left
        subst h0
        refine ⟨up ε 0 o4, by simp [i0, i2, i4, hlt, sg_of g.hrnd, c4], o4, told, by simp, hG4.mono (by omega), by simp [i3], by simp [i4], hl, hp⟩
      · right
        have h0' : 0 < a := by omega
        refine ⟨up ε 0 o4, by simp [i0, i2, i4, hlt, sg_of g.hrnd, c4, h0'], ?_⟩
        obtain ⟨x, o5, c5, hx, hG5⟩ := g.rnd_ok n _ m o4 hG4 (by omega) (by omega) (by omega)
        obtain ⟨y, o6, c6, hy, hG6⟩ := g.rnd_ok n _ m1 o5 hG5 (by omega) (by omega) (by omega)
        have hne := other_ne hx (show y < m - 1 by omega)
        have ec := pr_mod ((x : Int) + 1 + y) m (by omega)
        rw [mod_cast' (y := x + 1 + y) (by omega)] at ec
        generalize (x + 1 + y) % m = z at hne ec
        simp [i3, i4, sg_of g.hrnd, c5, em1, c6, ec]
        rw [appTo_ls (i := 4) (ds := told.map pD) (by simp [i4]) (by simp; omega)]
        simp [i2, i3]
        refine ⟨many - (told.length + 1), by omega, told ++ [(min x z, max x z)], hG6.mono (by simp; omega), by simp [pD], by simp, by simp; omega, ?_⟩
        intro p q hpq
        rw [List.mem_append, List.mem_singleton] at hpq
        rcases hpq with hpq | hpq
        · exact hp _ hpq
        · cases hpq; omega
    · left
      exact ⟨ε, by simp [i0, i2, i4, hlt], o3, told, i0, hG3.mono (by omega), i3, i4, hl, hp⟩
  · rintro ε ⟨o3, told, i0, hG3, i3, i4, hl, hp⟩
    simp [i3, i4, pr_sorted_pD, finals_one, i0]
    exact ⟨m, _, rfl, web_of_told (by omega) (by omega) (by omega) hp, by omega, by omega, by simp; omega, hG3.mono (by omega)⟩
theorem RndT.some_ok {f fw fh : Nat} (hf : T f = some ⟨3, [0], gb__law_some_web g.rnd fw fh⟩) (hw : T fw = some ⟨3, [0], gb__law_web g.rnd⟩) (hh : T fh = some ⟨3, [0], gb__law_whole_web g.rnd⟩) (n k most many : Nat) (o : O) (ho : Gen k o) (hk : k ≤ 10000000) (hm : 2 ≤ most) (hm' : most ≤ 10) (hn : many ≤ 24) (hmn : most ≤ many + 1) :
    ∃ m ts o', callN T (n + 4) f [o, .im (.int most), .im (.int many)] = .ret (webO m ts) [o'] ∧ Web m ts ∧ m ≤ most ∧ ts.length ≤ many ∧ Gen (k + 201) o' := by
  obtain ⟨r, o1, c1, hr, hG1⟩ := g.rnd_ok (n + 1) k 3 o ho (by omega) (by omega) (by omega)
  rw [show ((3 : Nat) : Int) = 3 from rfl] at c1
  rw [callN_succ hf rfl]
  by_cases h0 : r = 0
  · subst h0
    obtain ⟨m, ts, o2, c2, hW, h1, h2, hG⟩ := g.web_ok hw n (k + 1) most many o1 hG1 (by omega) (by omega) hm' hn
    refine ⟨m, ts, o2, ?_, hW, h1, h2, hG.mono (by omega)⟩
    simp [gb__law_some_web, sg_of g.hrnd, c1, sg_of hw, c2, finals_one]
  · obtain ⟨m, ts, o2, c2, hW, h1', h1, h2, hG⟩ := g.whole_ok hh n (k + 1) most many o1 hG1 (by omega) (by omega) hm' hn hmn
    refine ⟨m, ts, o2, ?_, hW, h1, h2, hG.mono (by omega)⟩
    have e : max (2 : Int) most = (most : Int) := by omega
    have h0' : ¬ (r : Int) = 0 := by omega
    simp [gb__law_some_web, sg_of g.hrnd, c1, sg_of hh, c2, finals_one, e, h0]
end webs
end Ev
end
section
set_option linter.all false
set_option maxRecDepth 100000
set_option maxHeartbeats 4000000
/-! The law's pieces. -/
namespace Ev
open PySem Gr
def gb__law_pieces : List St := [.asg (.name 2) (.lc (.lst [.var 6]) (.name 6) (.rng [.var 0]) [] [6]), .for_ (.tup [.name 3, .name 4]) (.var 1) [.asg (.name 5) (.lc (.var 7) (.name 7) (.var 2) [.or [.pr .in_ [.var 3, .var 7], .pr .in_ [.var 4, .var 7]]] [7]), .asg (.name 2) (.pr .add [.lc (.var 7) (.name 7) (.var 2) [.pr .nin [.var 7, .var 5]] [7], .lst [.pr .sorted1 [.pr .sum2 [.var 5, .lst []]]]])], .ret (.pr .sorted1 [.var 2])]
theorem filterMap_some' {α β : Type} (f : α → β) (l : List α) : l.filterMap (fun x => some (f x)) = l.map f := by
  induction l with
  | nil => rfl
  | cons x l ih => rw [List.filterMap_cons, List.map_cons, ih]
theorem pr_in_lD1 (n : Nat) (x : List Nat) : prim .in_ [.int n, lD x] = some (.im (.bl (decide (n ∈ x)))) := pr_in_dn n x
theorem leL_trans (a b c : List Nat) : leL a b = true → leL b c = true → leL a c = true := by
  simp only [leL, decide_eq_true_eq, List.not_lt]; exact List.le_trans
theorem leL_total (a b : List Nat) : (leL a b || leL b a) = true := by
  simp only [leL, Bool.or_eq_true, decide_eq_true_eq, List.not_lt]; exact List.le_total a b
def lsO (x : List Nat) : O := .ls (x.map dn)
theorem ers_lsO (P : List (List Nat)) : O.ers (P.map lsO) = P.map lD := by
  induction P with
  | nil => rfl
  | cons x P ih => simp [ih, lsO, lD]
theorem law_pieces {T : Tab} {f : Nat} (hf : T f = some ⟨2, [], gb__law_pieces⟩) (n m : Nat) (ts : Ties) (hin : In m ts) (hm : m ≤ 1000000) :
    callN T (n + 1) f [.im (.int m), .im (.lst (ts.map pD))] = .ret (.ls ((pcs m ts).map lD)) [] := by
  rw [callN_succ hf rfl]
  simp only [gb__law_pieces, evSs_cons, evS_asg]
  rw [lc_eq0 dn (List.range m) (fun v => some (lsO [v]))]
  · have e : (List.range m).filterMap (fun v => some (lsO [v])) = ((List.range m).map fun v => [v]).map lsO := by
      rw [List.map_map, filterMap_some']; rfl
    rw [e]
    have hP : Parts m [] ((List.range m).map fun v => [v]) := Parts.start m
    generalize (List.range m).map (fun v => [v]) = P0 at hP
    have hmk : mk .ls .lst (P0.map lsO) = .ls (P0.map lD) ∨ mk .ls .lst (P0.map lsO) = .lst (P0.map lsO) := by
      cases P0 with
      | nil => left; rfl
      | cons x xs => right; rfl
    generalize mk .ls .lst (P0.map lsO) = o0 at hmk
    simp
    refine for_F0 pD ts (fun done ε => ∃ P, Parts m done P ∧ (ε 2 = some (.ls (P.map lD)) ∨ ε 2 = some (.lst (P.map lsO))) ∧ qt (ε 7) = true) (by simp) ?_ ?_ ?_
    · refine ⟨P0, hP, ?_, by simp⟩
      rcases hmk with rfl | rfl <;> simp
    · rintro done ⟨a, b⟩ rest ε e ⟨P, hP, h2, h7⟩
      have hx : a < m ∧ b < m := hin (a, b) (by rw [← e]; simp)
      have hd : In m done := fun p hp => hin p (by rw [← e]; simp [hp])
      obtain ⟨hne, hP'⟩ := hP.more hd hx.1 hx.2 rfl rfl rfl
      have hlen := hP.len
      have hfl := hP.flat_len (fun x => decide (a ∈ x) || decide (b ∈ x))
      generalize hnear : P.filter (fun x => decide (a ∈ x) || decide (b ∈ x)) = near at hne hP' hfl
      simp [pD]
      have hit : evIt (callN T n) T.sg (.var 2) (up (up ε 3 (.im (.int a))) 4 (.im (.int b))) = .ok (P.map lD) (up (up (up ε 3 (.im (.int a))) 4 (.im (.int b))) 2 (.im (.lst (P.map lD)))) := by
        rcases h2 with h2 | h2 <;> simp [h2, ers_lsO]
      rw [lc_filter (ε1 := up (up (up ε 3 (.im (.int a))) 4 (.im (.int b))) 2 (.im (.lst (P.map lD)))) lD P (fun x => decide (a ∈ x) || decide (b ∈ x)) lD hit (by omega)]
      · simp only [hnear]
        simp
        rw [lc_filter0 lD P (fun x => !decide (x ∈ near)) lD]
        · have q1 := pr_sum2_lD near hne (by omega)
          have q2 := pr_sorted_dn near.flatten
          have q3 := pr_add_lst ((P.filter fun x => !decide (x ∈ near)).map lD) [lD near.flatten.mergeSort] (by
            have := List.length_filter_le (fun x => !decide (x ∈ near)) P
            simp; omega)
          simp only [lD] at q3
          simp [q1, q2, q3, -List.map_flatten]
          exact ⟨_, hP', by simp [lD], by cases ε 7 <;> simp⟩
        · simp
        · omega
        · intro x hx
          refine ⟨up (wipe [7] (up (rez [7] (up (up (up ε 3 (.im (.int a))) 4 (.im (.int b))) 2 (.im (.lst (P.map lD))))) 5 (.ls (near.map lD)))) 7 (.im (lD x)), ?_, by simp⟩
          by_cases hc : x ∈ near <;> simp [hc, pr_nin_lD]
      · intro x hx
        refine ⟨up (wipe [7] (up (up (up ε 3 (.im (.int a))) 4 (.im (.int b))) 2 (.im (.lst (P.map lD))))) 7 (.im (lD x)), ?_, by simp⟩
        by_cases h1 : a ∈ x <;> by_cases h2 : b ∈ x <;> simp [h1, h2, pr_in_lD1]
    · rintro ε ⟨P, hP, h2, h7⟩
      have hs := hP.sorted hin (List.mergeSort_perm P leL) ((List.pairwise_mergeSort leL_trans leL_total P).imp fun {x y} h => by simpa [leL] using h)
      rcases h2 with h2 | h2 <;> simp [h2, ers_lsO, pr_sorted_lD, hs]
  · simp [itR_nat m _ (by omega), rngD_zero]
  · simp; omega
  · intro v hv
    refine ⟨up (wipe [6] fun i => [O.im (.int m), O.im (.lst (ts.map pD))][i]?) 6 (.im (.int v)), by simp [lsO], by simp⟩
end Ev
end
section
set_option linter.all false
set_option maxRecDepth 100000
set_option maxHeartbeats 4000000
/-! The law's wrong values. -/
namespace Ev
open PySem Gr
def gb__law_wrong_webs : List St := [.asg (.name 0) (.lst [.cst .non, .cst (.int 7), .tup [], .lst [], .tup [.cst (.int 2)], .lst [.cst (.int 2), .lst [.tup [.cst (.int 0), .cst (.int 1)]]], .tup [.cst (.int 2), .lst [.tup [.cst (.int 0), .cst (.int 1)]], .cst (.int 0)], .tup [.cst (.int 0), .lst []], .tup [.cst (.int 11), .lst []], .tup [.cst (.bl true), .lst []], .tup [.cst .non, .lst []], .tup [.cst (.str "2"), .lst []], .tup [.cst (.int 2), .cst .non], .tup [.cst (.int 2), .tup [.tup [.cst (.int 0), .cst (.int 1)]]], .tup [.cst (.int 2), .lst [.tup [.cst (.int 1), .cst (.int 0)]]]]), .asg (.name 0) (.pr .add [.var 0, .lst [.tup [.cst (.int 2), .lst [.tup [.cst (.int 0), .cst (.int 0)]]], .tup [.cst (.int 2), .lst [.tup [.cst (.int 0), .cst (.int 2)]]], .tup [.cst (.int 2), .lst [.tup [.pr .neg [.cst (.int 1)], .cst (.int 1)]]], .tup [.cst (.int 2), .lst [.tup [.cst (.int 0), .cst (.bl true)]]], .tup [.cst (.int 2), .lst [.tup [.cst (.int 0), .cst (.int 1), .cst (.int 1)]]], .tup [.cst (.int 2), .lst [.lst [.cst (.int 0), .cst (.int 1)]]], .tup [.cst (.int 2), .lst [.tup [.cst (.int 0)]]], .tup [.cst (.int 2), .lst [.cst .non]], .tup [.cst (.int 2), .lst [.tup [.cst (.str "0"), .cst (.int 1)]]]]]), .ret (.pr .add [.var 0, .lst [.tup [.cst (.int 3), .lst [.tup [.cst (.int 1), .cst (.int 2)], .tup [.cst (.int 0), .cst (.int 1)]]], .tup [.cst (.int 2), .pr .mul [.lst [.tup [.cst (.int 0), .cst (.int 1)]], .cst (.int 25)]], .tup [.cst (.int 3), .lst [.tup [.cst (.int 0), .cst (.int 1)], .tup [.cst (.int 0), .cst (.int 2)], .tup [.cst (.int 0), .cst (.int 1)]]]]])]
def gb__law_wrong_places : List St := [.ret (.lst [.cst .non, .var 0, .pr .neg [.cst (.int 1)], .cst (.bl true), .cst (.str "0"), .lst [.cst (.int 0)], .tup [.cst (.int 0)]])]
mutual
def smB : Nat → D → Bool
  | _, .non => true
  | _, .bl _ => true
  | _, .int _ => true
  | _, .str s => s.cps.all (· < 0x110000)
  | k, .lst xs => decide (0 < k) && (decide (xs.length ≤ 100000) && smBs (k - 1) xs)
  | k, .tup xs => decide (0 < k) && (decide (xs.length ≤ 100000) && smBs (k - 1) xs)
  | _, _ => false
def smBs : Nat → List D → Bool
  | _, [] => true
  | k, x :: xs => smB k x && smBs k xs
end
mutual
theorem smB_sm : ∀ (k : Nat) (d : D), smB k d = true → Sm k d
  | _, .non, _ => .non _
  | _, .bl _, _ => .bl _ _
  | _, .int _, _ => .int _ _
  | _, .str s, h => .str _ s h
  | k, .lst xs, h => by
    rw [smB, Bool.and_eq_true, Bool.and_eq_true, decide_eq_true_eq, decide_eq_true_eq] at h
    obtain ⟨j, rfl⟩ : ∃ j, k = j + 1 := ⟨k - 1, by omega⟩
    exact .lst h.2.1 (smBs_sm j xs h.2.2)
  | k, .tup xs, h => by
    rw [smB, Bool.and_eq_true, Bool.and_eq_true, decide_eq_true_eq, decide_eq_true_eq] at h
    obtain ⟨j, rfl⟩ : ∃ j, k = j + 1 := ⟨k - 1, by omega⟩
    exact .tup h.2.1 (smBs_sm j xs h.2.2)
  | _, .dct _, h => by simp [smB] at h
  | _, .scr _, h => by simp [smB] at h
  | _, .fn _, h => by simp [smB] at h
  | _, .ty _, h => by simp [smB] at h
  | _, .cls _, h => by simp [smB] at h
  | _, .exc _ _, h => by simp [smB] at h
theorem smBs_sm : ∀ (k : Nat) (xs : List D), smBs k xs = true → ∀ x ∈ xs, Sm k x
  | _, [], _, x, hx => by cases hx
  | k, y :: ys, h, x, hx => by
    rw [smBs, Bool.and_eq_true] at h
    rcases List.mem_cons.mp hx with e | hx
    · rw [e]; exact smB_sm k y h.1
    · exact smBs_sm k ys h.2 x hx
end
def wrongWebs : List D :=
  [.non, .int 7, .tup [], .lst [], .tup [.int 2], .lst [.int 2, .lst [.tup [.int 0, .int 1]]], .tup [.int 2, .lst [.tup [.int 0, .int 1]], .int 0], .tup [.int 0, .lst []], .tup [.int 11, .lst []], .tup [.bl true, .lst []], .tup [.non, .lst []], .tup [.str "2", .lst []], .tup [.int 2, .non], .tup [.int 2, .tup [.tup [.int 0, .int 1]]], .tup [.int 2, .lst [.tup [.int 1, .int 0]]],
   .tup [.int 2, .lst [.tup [.int 0, .int 0]]], .tup [.int 2, .lst [.tup [.int 0, .int 2]]], .tup [.int 2, .lst [.tup [.int (-1), .int 1]]], .tup [.int 2, .lst [.tup [.int 0, .bl true]]], .tup [.int 2, .lst [.tup [.int 0, .int 1, .int 1]]], .tup [.int 2, .lst [.lst [.int 0, .int 1]]], .tup [.int 2, .lst [.tup [.int 0]]], .tup [.int 2, .lst [.non]], .tup [.int 2, .lst [.tup [.str "0", .int 1]]],
   .tup [.int 3, .lst [.tup [.int 1, .int 2], .tup [.int 0, .int 1]]], .tup [.int 2, .lst (List.replicate 25 (.tup [.int 0, .int 1]))], .tup [.int 3, .lst [.tup [.int 0, .int 1], .tup [.int 0, .int 2], .tup [.int 0, .int 1]]]]
theorem wrongWebs_sm : ∀ w ∈ wrongWebs, Sm 5 w := smBs_sm 5 wrongWebs (by decide +kernel)
theorem wrongWebs_no : ∀ w ∈ wrongWebs, w.isW = false := by
  have : (wrongWebs.all fun w => !w.isW) = true := by decide +kernel
  intro w hw
  have h := List.all_eq_true.mp this w hw
  simpa using h
theorem wrong_webs {T : Tab} {f : Nat} (hf : T f = some ⟨0, [], gb__law_wrong_webs⟩) (n : Nat) : callN T (n + 1) f [] = .ret (.ls wrongWebs) [] := by
  have e1 : prim .mul [.lst [.tup [.int 0, .int 1]], .int 25] = some (.ls (List.replicate 25 (.tup [.int 0, .int 1]))) := pr_mul_lst1 _ 25 (by omega)
  rw [callN_succ hf rfl]
  simp [gb__law_wrong_webs, e1, -List.replicate_succ]
  rfl
def wrongPlaces (m : Nat) : List D := [.non, .int m, .int (-1), .bl true, .str "0", .lst [.int 0], .tup [.int 0]]
theorem wrongPlaces_ok (m : Nat) : ∀ w ∈ wrongPlaces m, Sm 5 w ∧ w.nz = true ∧ w.isB4 m = false := by
  intro w hw
  simp only [wrongPlaces, List.mem_cons, List.not_mem_nil, or_false] at hw
  rcases hw with rfl | rfl | rfl | rfl | rfl | rfl | rfl
  · exact ⟨.non _, by simp, rfl⟩
  · exact ⟨.int _ _, by simp, by simp⟩
  · exact ⟨.int _ _, by simp, by simp⟩
  · exact ⟨.bl _ _, by simp, rfl⟩
  · exact ⟨.str _ _ (by decide +kernel), by simp, rfl⟩
  · exact ⟨smB_sm 5 _ (by decide +kernel), by simp, rfl⟩
  · exact ⟨smB_sm 5 _ (by decide +kernel), by simp, rfl⟩
theorem wrong_places {T : Tab} {f : Nat} (hf : T f = some ⟨1, [], gb__law_wrong_places⟩) (n m : Nat) : ∃ o, callN T (n + 1) f [.im (.int m)] = .ret o [] ∧ o.er = .lst (wrongPlaces m) := by
  rw [callN_succ hf rfl]
  simp [gb__law_wrong_places, wrongPlaces]
theorem pr_eq_str (s t : Str) (hs : s.cps.all (· < 0x110000) = true) (ht : t.cps.all (· < 0x110000) = true) : prim .eq [.str s, .str t] = some (.im (.bl (decide (s = t)))) := by
  rw [pr_eq _ _ (by simp only [okD_str, hs, ht]; rfl)]; rfl
end Ev
end
section
set_option linter.all false
set_option maxRecDepth 100000
set_option maxHeartbeats 4000000
/-! The defs of centres: distances. -/
namespace Ev
open PySem Gr
def gb_check_place (i_is_below c_InvalidPlace : Nat) : List St := [.ite (.not (.call i_is_below [.var 1, .pr .idx [.var 0, .cst (.int 0)]])) [.rse c_InvalidPlace (.var 1)] []]
def gb_check_all_joined (i_pieces_of c_Parted : Nat) : List St := [.ite (.pr .gt [.pr .len [.call i_pieces_of [.pr .idx [.var 0, .cst (.int 0)], .pr .idx [.var 0, .cst (.int 1)]]], .cst (.int 1)]) [.rse c_Parted (.call i_pieces_of [.pr .idx [.var 0, .cst (.int 0)], .pr .idx [.var 0, .cst (.int 1)]])] []]
def gb_far_from : List St := [.asg (.name 2) (.pr .mul [.lst [.cst .non], .pr .idx [.var 0, .cst (.int 0)]]), .setix 2 (.var 1) (.cst (.int 0)), .asg (.name 3) (.lst [.var 1]), .whl (.pr .ne [.var 3, .lst []]) [.asg (.name 4) (.pr .idx [.var 3, .cst (.int 0)]), .asg (.name 3) (.pr (.slc true false) [.var 3, .cst (.int 1)]), .for_ (.tup [.name 5, .name 6]) (.pr .idx [.var 0, .cst (.int 1)]) [.for_ (.tup [.name 7, .name 8]) (.tup [.tup [.var 5, .var 6], .tup [.var 6, .var 5]]) [.ite (.and [.pr .eq [.var 7, .var 4], .pr .is_ [.pr .idx [.var 2, .var 8], .cst .non]]) [.setix 2 (.var 8) (.pr .add [.pr .idx [.var 2, .var 4], .cst (.int 1)]), .exp (.app 3 (.var 8))] []]]], .ret (.var 2)]
def gb_distances (i_check_web i_check_place i_far_from : Nat) : List St := [.exp (.call i_check_web [.var 0]), .exp (.call i_check_place [.var 0, .var 1]), .ret (.call i_far_from [.var 0, .var 1])]
def gb_shortest_way (i_check_web i_check_place i_far_from : Nat) : List St := [.exp (.call i_check_web [.var 0]), .exp (.call i_check_place [.var 0, .var 1]), .exp (.call i_check_place [.var 0, .var 2]), .asg (.name 3) (.call i_far_from [.var 0, .var 2]), .ite (.pr .is_ [.pr .idx [.var 3, .var 1], .cst .non]) [.ret (.cst .non)] [], .asg (.name 4) (.lst [.var 1]), .whl (.pr .ne [.pr .idx [.var 4, .pr .neg [.cst (.int 1)]], .var 2]) [.asg (.name 5) (.lc (.pr .sub [.pr .add [.var 6, .var 7], .pr .idx [.var 4, .pr .neg [.cst (.int 1)]]]) (.tup [.name 6, .name 7]) (.pr .idx [.var 0, .cst (.int 1)]) [.pr .in_ [.pr .idx [.var 4, .pr .neg [.cst (.int 1)]], .tup [.var 6, .var 7]]] [6, 7]), .exp (.app 4 (.pr .min1 [.lc (.var 6) (.name 6) (.var 5) [.pr .eq [.pr .idx [.var 3, .var 6], .pr .sub [.pr .idx [.var 3, .pr .idx [.var 4, .pr .neg [.cst (.int 1)]]], .cst (.int 1)]]] [6]]))], .ret (.var 4)]
def gb_rims (i_check_web i_check_all_joined i_far_from : Nat) : List St := [.exp (.call i_check_web [.var 0]), .exp (.call i_check_all_joined [.var 0]), .ret (.lc (.pr .max1 [.call i_far_from [.var 0, .var 1]]) (.name 1) (.rng [.pr .idx [.var 0, .cst (.int 0)]]) [] [1])]
def gb_centre (i_rims : Nat) : List St := [.asg (.name 1) (.call i_rims [.var 0]), .ret (.lc (.var 2) (.name 2) (.rng [.pr .idx [.var 0, .cst (.int 0)]]) [.pr .eq [.pr .idx [.var 1, .var 2], .pr .min1 [.var 1]]] [2])]
def gb_width (i_rims : Nat) : List St := [.ret (.pr .max1 [.call i_rims [.var 0]])]
def gb_sums (i_check_web i_check_all_joined i_far_from : Nat) : List St := [.exp (.call i_check_web [.var 0]), .exp (.call i_check_all_joined [.var 0]), .ret (.lc (.pr .sum1 [.call i_far_from [.var 0, .var 1]]) (.name 1) (.rng [.pr .idx [.var 0, .cst (.int 0)]]) [] [1])]
def gb_nearest_to_all (i_sums : Nat) : List St := [.asg (.name 1) (.call i_sums [.var 0]), .ret (.lc (.var 2) (.name 2) (.rng [.pr .idx [.var 0, .cst (.int 0)]]) [.pr .eq [.pr .idx [.var 1, .var 2], .pr .min1 [.var 1]]] [2])]
def gb_far_ends (i_check_web i_check_all_joined i_far_from : Nat) : List St := [.exp (.call i_check_web [.var 0]), .exp (.call i_check_all_joined [.var 0]), .par [1, 2] [.pr .neg [.cst (.int 1)], .cst .non], .for_ (.name 3) (.rng [.pr .idx [.var 0, .cst (.int 0)]]) [.asg (.name 4) (.call i_far_from [.var 0, .var 3]), .for_ (.name 5) (.rng [.var 3, .pr .idx [.var 0, .cst (.int 0)]]) [.ite (.pr .gt [.pr .idx [.var 4, .var 5], .var 1]) [.par [1, 2] [.pr .idx [.var 4, .var 5], .tup [.var 3, .var 5]]] []]], .ret (.var 2)]
def gb__law_far : List St := [.par [2, 3] [.pr .mul [.lst [.cst .non], .pr .idx [.var 0, .cst (.int 0)]], .lst [.var 1]], .for_ (.name 4) (.rng [.pr .idx [.var 0, .cst (.int 0)]]) [.for_ (.name 5) (.var 3) [.setix 2 (.var 5) (.ite (.pr .is_ [.pr .idx [.var 2, .var 5], .cst .non]) (.var 4) (.pr .idx [.var 2, .var 5]))], .asg (.name 3) (.lc (.var 5) (.name 5) (.rng [.pr .idx [.var 0, .cst (.int 0)]]) [.and [.pr .is_ [.pr .idx [.var 2, .var 5], .cst .non], .pr .ne [.lc (.cst (.int 1)) (.name 6) (.pr .idx [.var 0, .cst (.int 1)]) [.and [.pr .in_ [.var 5, .var 6], .pr .in_ [.pr .sub [.pr .sum1 [.var 6], .var 5], .var 3]]] [6], .lst []]]] [5])], .ret (.var 2)]
def gb__law_way (i__law_far : Nat) : List St := [.par [3, 4] [.call i__law_far [.var 0, .var 2], .lst [.var 1]], .ite (.pr .is_ [.pr .idx [.var 3, .var 1], .cst .non]) [.ret (.cst .non)] [], .whl (.pr .ne [.pr .idx [.var 4, .pr .neg [.cst (.int 1)]], .var 2]) [.asg (.name 5) (.lc (.pr .sub [.pr .sum1 [.var 6], .pr .idx [.var 4, .pr .neg [.cst (.int 1)]]]) (.name 6) (.pr .idx [.var 0, .cst (.int 1)]) [.pr .in_ [.pr .idx [.var 4, .pr .neg [.cst (.int 1)]], .var 6]] [6]), .exp (.app 4 (.pr .min1 [.lc (.var 7) (.name 7) (.var 5) [.pr .lt [.pr .idx [.var 3, .var 7], .pr .idx [.var 3, .pr .idx [.var 4, .pr .neg [.cst (.int 1)]]]]] [7]]))], .ret (.var 4)]
def tabO (m : Nat) (f : Nat → Option Nat) : List D := (List.range m).map fun v => oD (f v)
@[simp] theorem tabO_len (m f) : (tabO m f).length = m := by simp [tabO]
theorem tabO_get {m f i} (h : i < m) : (tabO m f)[i]? = some (oD (f i)) := by simp [tabO, h]
@[simp] theorem tabO_get' {m f i} (h : i < (tabO m f).length) : (tabO m f)[i] = oD (f i) := by simp [tabO]
theorem tabO_set (m f i k) : (tabO m f).set i (.int (k : Nat)) = tabO m (upd f i k) := by
  apply List.ext_getElem
  · simp
  · intro j h1 h2
    rw [List.getElem_set]
    by_cases h : i = j
    · subst h; simp [upd]
    · simp [h, upd, Ne.symm h]
theorem tabO_set0 (m f i) : (tabO m f).set i (.int 0) = tabO m (upd f i 0) := tabO_set m f i 0
theorem tabO_set1 (m f i) (k : Nat) : (tabO m f).set i (.int ((k : Int) + 1)) = tabO m (upd f i (k + 1)) := tabO_set m f i (k + 1)
theorem tabO_none (m) : List.replicate m D.non = tabO m (fun _ => none) := by
  apply List.ext_getElem
  · simp
  · intro j h1 h2
    simp
theorem upd_ne {f : Nat → Option Nat} {u v k : Nat} (h : f v ≠ none) : upd f u k v ≠ none := by
  unfold upd; split
  · simp
  · exact h
/-- the world while far_from goes on -/
structure FI (m : Nat) (ts : Ties) (p now d K : Nat) (f : Nat → Option Nat) (q : List Nat) (ε : Env) : Prop where
  i0 : ε 0 = some (.im (webD m ts))
  i2 : ε 2 = some (.ls (tabO m f))
  i3 : ε 3 = some (.ls (q.map dn))
  i4 : ε 4 = some (.im (.int now))
  J : QJ ts p now d f q
  lt : ∀ x ∈ q, x < m
  len : left m f + q.length = K
def FIo (m : Nat) (ts : Ties) (p now d K : Nat) (done : Ties) (ε : Env) : Prop := ∃ f q, FI m ts p now d K f q ε ∧ ∀ t ∈ done, (t.1 = now → f t.2 ≠ none) ∧ (t.2 = now → f t.1 ≠ none)
def FIi (m : Nat) (ts : Ties) (p now d K : Nat) (done dn' : Ties) (ε : Env) : Prop := ∃ f q, FI m ts p now d K f q ε ∧ (∀ t ∈ done, (t.1 = now → f t.2 ≠ none) ∧ (t.2 = now → f t.1 ≠ none)) ∧ ∀ t ∈ dn', t.1 = now → f t.2 ≠ none
def FIw (m : Nat) (ts : Ties) (p j : Nat) (ε : Env) : Prop := ∃ (f : Nat → Option Nat) (q : List Nat), ε 0 = some (.im (webD m ts)) ∧ ε 2 = some (.ls (tabO m f)) ∧ ε 3 = some (.ls (q.map dn)) ∧ QI ts p f q ∧ (∀ x ∈ q, x < m) ∧ left m f + q.length = j ∧ j ≤ m + 1
theorem far_from {T : Tab} {g : Nat} (hf : T g = some ⟨2, [], gb_far_from⟩) (n m p : Nat) (ts : Ties) (hin : In m ts) (hp : p < m) (hm : m ≤ 1000) :
    callN T (n + 1) g [.im (webD m ts), .im (.int p)] = .ret (.ls (tabO m (dst ts p))) [] := by
  rw [callN_succ hf rfl]
  have e1 := pr_mul_lst1 .non m (by omega)
  simp [gb_far_from, webD, e1, tabO_none, hp, tabO_set0]
  refine whl_F m (FIw m ts p) (fun ε => ε 2 = some (.ls (tabO m (dst ts p)))) ?_ (by omega) ?_ ?_
  · refine ⟨upd (fun _ => none) p 0, [p], by simp [webD], by simp, by simp, QI.start ts p, by simp [hp], ?_, by omega⟩
    have h1 := left_upd (m := m) (far := p) (k := 0) (f := fun _ => none) hp rfl
    have h2 : left m (fun _ => none) = m := by unfold left; rw [List.filter_eq_self.mpr (by simp)]; simp
    simp; omega
  · rintro j ε ⟨f, q, i0, i2, i3, hQ, hq, rfl, hj⟩
    cases q with
    | nil =>
      left
      refine ⟨ε, by simp [i3], ?_⟩
      rw [i2, show f = dst ts p from funext hQ.isDist.eq]
    | cons now q =>
      right
      refine ⟨ε, by simp [i3], ?_⟩
      have hnow : now < m := hq now (by simp)
      obtain ⟨d, hJ⟩ := hQ.next
      obtain ⟨K, hK⟩ : ∃ K, left m f + q.length = K := ⟨_, rfl⟩
      simp [i0, i3, webD]
      refine for_S0 pD ts (FIo m ts p now d K) ?_ ?_ ?_ ?_
      · simp [i0, webD]
      · exact ⟨f, q, ⟨by simp [i0], by simp [i2], by simp, by simp, hJ, fun x hx => hq x (by simp [hx]), hK⟩, by simp⟩
      · rintro done ⟨a, b⟩ rest ε e ⟨f, q, hF, hdone⟩
        have hab : (a, b) ∈ ts := by rw [← e]; simp
        have hx : a < m ∧ b < m := hin (a, b) hab
        simp [pD]
        refine for_S0 pD [(a, b), (b, a)] (FIi m ts p now d K done) ?_ ?_ ?_ ?_
        · simp [pD]
        · exact ⟨f, q, ⟨by simp [hF.i0], by simp [hF.i2], by simp [hF.i3], by simp [hF.i4], hF.J, hF.lt, hF.len⟩, hdone, by simp⟩
        · rintro dn' ⟨c, far⟩ rest' ε e' ⟨f, q, ⟨j0, j2, j3, j4, hJ', hq', hK'⟩, hdone, hdn⟩
          have hc : (c, far) ∈ [(a, b), (b, a)] := by rw [← e']; simp
          have hcf : far < m ∧ adj ts c far := by
            simp at hc
            rcases hc with ⟨rfl, rfl⟩ | ⟨rfl, rfl⟩
            · exact ⟨hx.2, .inl hab⟩
            · exact ⟨hx.1, .inr hab⟩
          have hf := tabO_get (m := m) (f := f) hcf.1
          have hnow' := tabO_get (m := m) (f := f) hnow
          rw [hJ'.at_now] at hnow'
          by_cases h1 : c = now
          · subst h1
            by_cases h2 : f far = none
            · have hlf := left_upd (k := d + 1) hcf.1 h2
              have hap : ∀ ε : Env, ε 3 = some (.ls (q.map dn)) → appTo ε 3 (.im (.int far)) = .ok (.im .non) (up ε 3 (.ls (q.map dn ++ [.int far]))) := fun ε h => appTo_ls h (by simp at hj ⊢; omega)
              simp [pD, j2, j3, j4, hf, h2, hnow', hcf.1, tabO_set1, hap]
              refine ⟨upd f far (d + 1), q ++ [far], ⟨by simp [j0], by simp, by simp, by simp [j4], hJ'.put h2 hcf.2, ?_, by simp; omega⟩, ?_, ?_⟩
              · intro x hx
                rcases List.mem_append.mp hx with hx | hx
                · exact hq' x hx
                · rw [List.mem_singleton.mp hx]; exact hcf.1
              · intro t ht
                exact ⟨fun e => upd_ne ((hdone _ ht).1 e), fun e => upd_ne ((hdone _ ht).2 e)⟩
              · intro t ht e
                rcases List.mem_append.mp ht with ht | ht
                · exact upd_ne (hdn _ ht e)
                · rw [List.mem_singleton.mp ht]; simp [upd]
            · have h2' : (f far).isNone = false := by cases e : f far <;> simp_all
              simp [pD, j2, j3, j4, hf, h2']
              refine ⟨f, q, ⟨by simp [j0], by simp [j2], by simp [j3], by simp [j4], hJ', hq', hK'⟩, hdone, ?_⟩
              intro t ht e
              rcases List.mem_append.mp ht with ht | ht
              · exact hdn _ ht e
              · rw [List.mem_singleton.mp ht]; exact h2
          · simp [pD, j2, j3, j4, h1]
            refine ⟨f, q, ⟨by simp [j0], by simp [j2], by simp [j3], by simp [j4], hJ', hq', hK'⟩, hdone, ?_⟩
            intro t ht e
            rcases List.mem_append.mp ht with ht | ht
            · exact hdn _ ht e
            · rw [List.mem_singleton.mp ht] at e; exact absurd e h1
        · rintro ε ⟨f, q, hF, hdone, hdn⟩
          refine ⟨ε, by simp, f, q, hF, ?_⟩
          intro t ht
          rcases List.mem_append.mp ht with ht | ht
          · exact hdone t ht
          · rw [List.mem_singleton.mp ht]
            exact ⟨fun e => hdn (a, b) (by simp) e, fun e => hdn (b, a) (by simp) e⟩
      · rintro ε ⟨f', q', ⟨i0, i2, i3, i4, hJ, hq, hK'⟩, hdone⟩
        refine ⟨ε, by simp, K, by omega, f', q', i0, i2, i3, hJ.done ?_, hq, hK', by simp at hj; omega⟩
        intro v hv
        rcases hv with hv | hv
        · exact (hdone _ hv).1 rfl
        · exact (hdone _ hv).2 rfl
  · intro ε h
    simp [h]
end Ev
end
section
set_option linter.all false
set_option maxRecDepth 100000
set_option maxHeartbeats 4000000
/-! The defs of centres, over webs and over what is none. -/
namespace Ev
open PySem Gr
@[simp] theorem pr_web0 (m ts) : prim .idx [webD m ts, .int 0] = some (.im (.int m)) := by simp [webD]
@[simp] theorem pr_web1 (m ts) : prim .idx [webD m ts, .int 1] = some (.im (.lst (ts.map pD))) := by simp [webD]
theorem call_web {T : Tab} (K : KindsT T) (n : Nat) {m ts} (h : Web m ts) : callN T (n + 6) K.cweb [.im (webD m ts)] = .ret (.im .non) [] := by
  rw [K.check_web n _ _ (okD_webD m ts 0), h.isW]; rfl
theorem call_web_no {T : Tab} (K : KindsT T) (n : Nat) {k d} (h : Sm k d) (hd : d.isW = false) : callN T (n + 6) K.cweb [.im d] = .exc K.xweb d [] := by
  rw [K.check_web n _ _ h.okD, hd]; rfl
structure PlaceT (T : Tab) (K : KindsT T) where
  cplace : Nat
  xplace : Nat
  hcplace : T cplace = some ⟨2, [], gb_check_place K.below xplace⟩
theorem PlaceT.check {T : Tab} {K : KindsT T} (P : PlaceT T K) (n m : Nat) (ts) (d : D) (hd : d.nz = true) : callN T (n + 4) P.cplace [.im (webD m ts), .im d] = if d.isB4 m then .ret (.im .non) [] else .exc P.xplace d [] := by
  rw [callN_succ P.hcplace rfl]
  have := K.is_below n d m hd
  cases h : d.isB4 m <;> simp [gb_check_place, sg_of K.hbelow, this, h]
theorem PlaceT.ok {T : Tab} {K : KindsT T} (P : PlaceT T K) (n m ts p) (h : p < m) : callN T (n + 4) P.cplace [.im (webD m ts), .im (.int (p : Nat))] = .ret (.im .non) [] := by
  rw [P.check n m ts _ (by simp)]; simp [h]
theorem PlaceT.no {T : Tab} {K : KindsT T} (P : PlaceT T K) (n m : Nat) (ts) (d : D) (hd : d.nz = true) (h : d.isB4 m = false) : callN T (n + 4) P.cplace [.im (webD m ts), .im d] = .exc P.xplace d [] := by
  rw [P.check n m ts _ hd, h]; rfl
structure PcsT (T : Tab) where
  lab : Nat
  hlab : T lab = some ⟨2, [], gb_labels_of⟩
  pcs : Nat
  hpcs : T pcs = some ⟨2, [], gb_pieces_of lab⟩
structure CentT (T : Tab) (K : KindsT T) (P : PlaceT T K) (Q : PcsT T) where
  joined : Nat
  xparted : Nat
  hjoined : T joined = some ⟨1, [], gb_check_all_joined Q.pcs xparted⟩
  far : Nat
  hfar : T far = some ⟨2, [], gb_far_from⟩
  dist : Nat
  hdist : T dist = some ⟨2, [], gb_distances K.cweb P.cplace far⟩
  sway : Nat
  hsway : T sway = some ⟨3, [], gb_shortest_way K.cweb P.cplace far⟩
  rims : Nat
  hrims : T rims = some ⟨1, [], gb_rims K.cweb joined far⟩
  centre : Nat
  hcentre : T centre = some ⟨1, [], gb_centre rims⟩
  width : Nat
  hwidth : T width = some ⟨1, [], gb_width rims⟩
  sums : Nat
  hsums : T sums = some ⟨1, [], gb_sums K.cweb joined far⟩
  near : Nat
  hnear : T near = some ⟨1, [], gb_nearest_to_all sums⟩
  ends : Nat
  hends : T ends = some ⟨1, [], gb_far_ends K.cweb joined far⟩
section cents
variable {T : Tab} {K : KindsT T} {P : PlaceT T K} {Q : PcsT T} (C : CentT T K P Q)
theorem CentT.joined_ok (n : Nat) {m ts} (hW : Web m ts) : callN T (n + 3) C.joined [.im (webD m ts)] = if 1 < (Gr.pcs m ts).length then .exc C.xparted (.lst ((Gr.pcs m ts).map lD)) [] else .ret (.im .non) [] := by
  obtain ⟨o, h1, h2⟩ := pieces_of Q.hpcs Q.hlab n m ts hW.In (by have := hW.m10; omega)
  rw [callN_succ C.hjoined rfl]
  by_cases hc : 1 < (Gr.pcs m ts).length
  · have hc' : (1 : Int) < (Gr.pcs m ts).length := by omega
    simp [gb_check_all_joined, sg_of Q.hpcs, h1, h2, hc, hc']
  · have hc' : ¬ (1 : Int) < (Gr.pcs m ts).length := by omega
    simp [gb_check_all_joined, sg_of Q.hpcs, h1, h2, hc, hc']
theorem CentT.dist_ok (n : Nat) {m ts p} (hW : Web m ts) (hp : p < m) : callN T (n + 7) C.dist [.im (webD m ts), .im (.int (p : Nat))] = .ret (.ls (tabO m (dst ts p))) [] := by
  have h1 := far_from C.hfar (n + 5) m p ts hW.In hp (by have := hW.m10; omega)
  rw [callN_succ C.hdist rfl]
  simp [gb_distances, sg_of K.hcweb, call_web K n hW, sg_of P.hcplace, P.ok (n + 2) m ts p hp, sg_of C.hfar, h1]
theorem CentT.dist_web (n : Nat) {k d} {e : D} (h : Sm k d) (hd : d.isW = false) : callN T (n + 7) C.dist [.im d, .im e] = .exc K.xweb d [] := by
  rw [callN_succ C.hdist rfl]
  simp [gb_distances, sg_of K.hcweb, call_web_no K n h hd]
theorem CentT.dist_place (n : Nat) {m ts} {e : D} (hW : Web m ts) (he : e.nz = true) (h : e.isB4 m = false) : callN T (n + 7) C.dist [.im (webD m ts), .im e] = .exc P.xplace e [] := by
  rw [callN_succ C.hdist rfl]
  simp [gb_distances, sg_of K.hcweb, call_web K n hW, sg_of P.hcplace, P.no (n + 2) m ts e he h]
theorem CentT.sway_web (n : Nat) {k d} {e e' : D} (h : Sm k d) (hd : d.isW = false) : callN T (n + 7) C.sway [.im d, .im e, .im e'] = .exc K.xweb d [] := by
  rw [callN_succ C.hsway rfl]
  simp [gb_shortest_way, sg_of K.hcweb, call_web_no K n h hd]
theorem CentT.sway_place (n : Nat) {m ts} {e e' : D} (hW : Web m ts) (he : e.nz = true) (h : e.isB4 m = false) : callN T (n + 7) C.sway [.im (webD m ts), .im e, .im e'] = .exc P.xplace e [] := by
  rw [callN_succ C.hsway rfl]
  simp [gb_shortest_way, sg_of K.hcweb, call_web K n hW, sg_of P.hcplace, P.no (n + 2) m ts e he h]
theorem CentT.sway_other (n : Nat) {m ts p} {e : D} (hW : Web m ts) (hp : p < m) (he : e.nz = true) (h : e.isB4 m = false) : callN T (n + 7) C.sway [.im (webD m ts), .im (.int (p : Nat)), .im e] = .exc P.xplace e [] := by
  rw [callN_succ C.hsway rfl]
  simp [gb_shortest_way, sg_of K.hcweb, call_web K n hW, sg_of P.hcplace, P.ok (n + 2) m ts p hp, P.no (n + 2) m ts e he h]
theorem CentT.rims_web (n : Nat) {k d} (h : Sm k d) (hd : d.isW = false) : callN T (n + 7) C.rims [.im d] = .exc K.xweb d [] := by
  rw [callN_succ C.hrims rfl]
  simp [gb_rims, sg_of K.hcweb, call_web_no K n h hd]
theorem CentT.sums_web (n : Nat) {k d} (h : Sm k d) (hd : d.isW = false) : callN T (n + 7) C.sums [.im d] = .exc K.xweb d [] := by
  rw [callN_succ C.hsums rfl]
  simp [gb_sums, sg_of K.hcweb, call_web_no K n h hd]
theorem CentT.ends_web (n : Nat) {k d} (h : Sm k d) (hd : d.isW = false) : callN T (n + 7) C.ends [.im d] = .exc K.xweb d [] := by
  rw [callN_succ C.hends rfl]
  simp [gb_far_ends, sg_of K.hcweb, call_web_no K n h hd]
theorem CentT.centre_exc (n : Nat) {d c v} (h : callN T n C.rims [.im d] = .exc c v []) : callN T (n + 1) C.centre [.im d] = .exc c v [] := by
  rw [callN_succ C.hcentre rfl]
  simp [gb_centre, sg_of C.hrims, h]
theorem CentT.width_exc (n : Nat) {d c v} (h : callN T n C.rims [.im d] = .exc c v []) : callN T (n + 1) C.width [.im d] = .exc c v [] := by
  rw [callN_succ C.hwidth rfl]
  simp [gb_width, sg_of C.hrims, h]
theorem CentT.near_exc (n : Nat) {d c v} (h : callN T n C.sums [.im d] = .exc c v []) : callN T (n + 1) C.near [.im d] = .exc c v [] := by
  rw [callN_succ C.hnear rfl]
  simp [gb_nearest_to_all, sg_of C.hsums, h]
section parted
variable (n : Nat) {m : Nat} {ts : Ties} (hW : Web m ts) (hp : 1 < (Gr.pcs m ts).length)
include hW hp
theorem CentT.rims_parted : callN T (n + 7) C.rims [.im (webD m ts)] = .exc C.xparted (.lst ((Gr.pcs m ts).map lD)) [] := by
  have h := C.joined_ok (n + 3) hW
  rw [if_pos hp] at h
  rw [callN_succ C.hrims rfl]
  simp [gb_rims, sg_of K.hcweb, call_web K n hW, sg_of C.hjoined, h]
theorem CentT.sums_parted : callN T (n + 7) C.sums [.im (webD m ts)] = .exc C.xparted (.lst ((Gr.pcs m ts).map lD)) [] := by
  have h := C.joined_ok (n + 3) hW
  rw [if_pos hp] at h
  rw [callN_succ C.hsums rfl]
  simp [gb_sums, sg_of K.hcweb, call_web K n hW, sg_of C.hjoined, h]
theorem CentT.ends_parted : callN T (n + 7) C.ends [.im (webD m ts)] = .exc C.xparted (.lst ((Gr.pcs m ts).map lD)) [] := by
  have h := C.joined_ok (n + 3) hW
  rw [if_pos hp] at h
  rw [callN_succ C.hends rfl]
  simp [gb_far_ends, sg_of K.hcweb, call_web K n hW, sg_of C.hjoined, h]
end parted
/-! whole webs -/
noncomputable def dv (ts : Ties) (p v : Nat) : Nat := (dst ts p v).getD 0
noncomputable def row (m : Nat) (ts : Ties) (p : Nat) : List Nat := (List.range m).map (dv ts p)
def mx (xs : List Nat) : Nat := xs.max?.getD 0
def mn (xs : List Nat) : Nat := xs.min?.getD 0
noncomputable def rimL (m : Nat) (ts : Ties) : List Nat := (List.range m).map fun p => mx (row m ts p)
noncomputable def sumL (m : Nat) (ts : Ties) : List Nat := (List.range m).map fun p => (row m ts p).sum
theorem pr_mx {xs : List Nat} (h : xs ≠ []) : prim .max1 [.lst (xs.map dn)] = some (.im (.int (mx xs))) := by
  rw [pr_max1]; unfold mx
  cases e : xs.max? with
  | none => exact absurd (List.max?_eq_none_iff.mp e) h
  | some k => rfl
theorem pr_mn {xs : List Nat} (h : xs ≠ []) : prim .min1 [.lst (xs.map dn)] = some (.im (.int (mn xs))) := by
  rw [pr_min1]; unfold mn
  cases e : xs.min? with
  | none => exact absurd (List.min?_eq_none_iff.mp e) h
  | some k => rfl
theorem whole_dst {m ts} (hW : Web m ts) (hp : ¬ 1 < (Gr.pcs m ts).length) {u v : Nat} (hu : u < m) (hv : v < m) : dst ts u v = some (dv ts u v) := by
  have h1 := pcs_pos hW.In hW.m1
  have hc := (pcs_one hW.In hW.m1).mp (by omega) u v hu hv
  obtain ⟨k, e⟩ := dst_isSome.mpr hc
  simp [dv, e]
theorem tabO_row {m ts} (hW : Web m ts) (hp : ¬ 1 < (Gr.pcs m ts).length) {p : Nat} (h : p < m) : tabO m (dst ts p) = (row m ts p).map dn := by
  unfold tabO row
  rw [List.map_map]
  apply List.map_congr_left
  intro v hv
  rw [whole_dst hW hp h (List.mem_range.mp hv)]; rfl
theorem row_ne {m ts p} (h : 1 ≤ m) : row m ts p ≠ [] := by simp [row]; omega
section whole
variable (n : Nat) {m : Nat} {ts : Ties} (hW : Web m ts) (hp : ¬ 1 < (Gr.pcs m ts).length)
include hW hp
theorem CentT.joined_whole : callN T (n + 3) C.joined [.im (webD m ts)] = .ret (.im .non) [] := by
  rw [C.joined_ok n hW, if_neg hp]
theorem CentT.rims_ok : callN T (n + 7) C.rims [.im (webD m ts)] = .ret (.ls ((rimL m ts).map dn)) [] := by
  have hm := hW.m10
  rw [callN_succ C.hrims rfl]
  simp [gb_rims, sg_of K.hcweb, call_web K n hW, sg_of C.hjoined, C.joined_whole (n + 3) hW hp]
  rw [lc_map0 dn (List.range m) (fun p => dn (mx (row m ts p)))]
  · simp [rimL]
  · simp; rw [itR_nat _ _ (by omega), rngD_zero]
  · simp; omega
  · intro p hp'
    have hp' : p < m := List.mem_range.mp hp'
    have h1 := far_from C.hfar (n + 5) m p ts hW.In hp' (by omega)
    rw [tabO_row hW hp hp'] at h1
    exact ⟨up (wipe [1] fun i => [O.im (webD m ts)][i]?) 1 (.im (.int p)), by simp [sg_of C.hfar, h1, pr_mx (row_ne hW.m1)], by simp⟩
theorem CentT.sums_ok : callN T (n + 7) C.sums [.im (webD m ts)] = .ret (.ls ((sumL m ts).map dn)) [] := by
  have hm := hW.m10
  rw [callN_succ C.hsums rfl]
  simp [gb_sums, sg_of K.hcweb, call_web K n hW, sg_of C.hjoined, C.joined_whole (n + 3) hW hp]
  rw [lc_map0 dn (List.range m) (fun p => dn ((row m ts p).sum))]
  · simp [sumL]
  · simp; rw [itR_nat _ _ (by omega), rngD_zero]
  · simp; omega
  · intro p hp'
    have hp' : p < m := List.mem_range.mp hp'
    have h1 := far_from C.hfar (n + 5) m p ts hW.In hp' (by omega)
    rw [tabO_row hW hp hp'] at h1
    exact ⟨up (wipe [1] fun i => [O.im (webD m ts)][i]?) 1 (.im (.int p)), by simp [sg_of C.hfar, h1, pr_sum1], by simp⟩
omit hp in
theorem pick_ok (cl sg) (xs : List Nat) (hl : xs.length = m) (ε : Env) (h0 : ε 0 = some (.im (webD m ts))) (h1 : ε 1 = some (.ls (xs.map dn))) :
    evE cl sg (.lc (.var 2) (.name 2) (.rng [.pr .idx [.var 0, .cst (.int 0)]]) [.pr .eq [.pr .idx [.var 1, .var 2], .pr .min1 [.var 1]]] [2]) ε = .ok (.ls (((List.range m).filter fun p => decide (xs[p]? = some (mn xs))).map dn)) (rez [2] ε) := by
  have hm := hW.m10
  have hm1 := hW.m1
  have hne : xs ≠ [] := by intro e; simp [e] at hl; omega
  rw [lc_filter0 dn (List.range m) (fun p => decide (xs[p]? = some (mn xs))) dn]
  · simp [h0]; rw [itR_nat _ _ (by omega), rngD_zero]
  · simp; omega
  · intro p hp'
    have hp' : p < m := List.mem_range.mp hp'
    refine ⟨up (wipe [2] ε) 2 (.im (.int p)), ?_, by simp⟩
    have hx : xs[p]? = some (xs[p]'(by omega)) := by simp
    rw [hx]
    by_cases hc : xs[p]'(by omega) = mn xs <;> simp [h1, hx, pr_mn hne, hc]
theorem CentT.centre_ok : callN T (n + 8) C.centre [.im (webD m ts)] = .ret (.ls (((List.range m).filter fun p => decide ((rimL m ts)[p]? = some (mn (rimL m ts)))).map dn)) [] := by
  have hk := pick_ok hW (callN T (n + 7)) T.sg (rimL m ts) (by simp [rimL])
  rw [callN_succ C.hcentre rfl]
  simp [gb_centre, sg_of C.hrims, C.rims_ok n hW hp, hk]
theorem CentT.near_ok : callN T (n + 8) C.near [.im (webD m ts)] = .ret (.ls (((List.range m).filter fun p => decide ((sumL m ts)[p]? = some (mn (sumL m ts)))).map dn)) [] := by
  have hk := pick_ok hW (callN T (n + 7)) T.sg (sumL m ts) (by simp [sumL])
  rw [callN_succ C.hnear rfl]
  simp [gb_nearest_to_all, sg_of C.hsums, C.sums_ok n hW hp, hk]
theorem CentT.width_ok : callN T (n + 8) C.width [.im (webD m ts)] = .ret (.im (.int (mx (rimL m ts)))) [] := by
  have hne : rimL m ts ≠ [] := by have := hW.m1; simp [rimL]; omega
  rw [callN_succ C.hwidth rfl]
  simp [gb_width, sg_of C.hrims, C.rims_ok n hW hp, pr_mx hne]
end whole
end cents
end Ev
end
section
set_option linter.all false
set_option maxRecDepth 100000
set_option maxHeartbeats 4000000
/-! Shortest ways. -/
namespace Ev
open PySem Gr
noncomputable def wayO (ts : Ties) (q p : Nat) : O := match dst ts q p with
  | none => .im .non
  | some k => .ls ((way ts (dst ts q) k p).map dn)
structure SW (m : Nat) (ts : Ties) (p q k j : Nat) (pre : List Nat) (v : Nat) (ε : Env) : Prop where
  i0 : ε 0 = some (.im (webD m ts))
  i2 : ε 2 = some (.im (.int q))
  i3 : ε 3 = some (.ls (tabO m (dst ts q)))
  i4 : ε 4 = some (.ls ((pre ++ [v]).map dn))
  d : dst ts q v = some j
  lt : v < m
  w : pre ++ way ts (dst ts q) j v = way ts (dst ts q) k p
  len : pre.length + j ≤ m
def SWi (m : Nat) (ts : Ties) (p q k j : Nat) (ε : Env) : Prop := ∃ pre v, SW m ts p q k j pre v ε
theorem SW.next {m ts p q k j pre v ε ε'} (h : SW m ts p q k (j + 1) pre v ε) (hin : In m ts) (e0 : ε' 0 = ε 0) (e2 : ε' 2 = ε 2) (e3 : ε' 3 = ε 3) (e4 : ε' 4 = some (.ls ((pre ++ [v] ++ [nxt ts (dst ts q) j v]).map dn))) : SWi m ts p q k j ε' := by
  obtain ⟨h1, h2, h3⟩ := nxt_mem (dst_isDist ts q) h.d
  refine ⟨pre ++ [v], nxt ts (dst ts q) j v, e0.trans h.i0, e2.trans h.i2, e3.trans h.i3, e4, h3, (hin.adj h2).2, ?_, ?_⟩
  · rw [← h.w]; simp [way]
  · have := h.len; simp; omega
theorem SW.done {m ts p q k j pre v ε} (h : SW m ts p q k j pre v ε) (e : v = q) : ε 4 = some (.ls ((way ts (dst ts q) k p).map dn)) := by
  have : j = 0 := by
    have h1 := h.d
    rw [e, (dst_isDist ts q).at_p] at h1; cases h1; rfl
  subst this
  rw [h.i4, ← h.w]; rfl
theorem SW.more {m ts p q k j pre v ε} (h : SW m ts p q k j pre v ε) (e : v ≠ q) : ∃ i, j = i + 1 := by
  cases j with
  | zero => exact absurd ((dst_isDist ts q).zero v h.d) e
  | succ i => exact ⟨i, rfl⟩
theorem nbr_some {m ts q v j u} (hin : In m ts) (h : dst ts q v = some j) (hu : u ∈ nbr ts v) : u < m ∧ ∃ i, dst ts q u = some i ∧ i ≤ j + 1 := by
  have ha := mem_nbr.mp hu
  obtain ⟨i, hi, e⟩ := (dst_isDist ts q).step v u j ha h
  exact ⟨(hin.adj ha).2, i, e, hi⟩
theorem nbr_low {m ts q v j u i} (hin : In m ts) (h : dst ts q v = some (j + 1)) (hu : u ∈ nbr ts v) (hi : dst ts q u = some i) : j ≤ i := by
  have ha := mem_nbr.mp hu
  obtain ⟨l, hl, e⟩ := (dst_isDist ts q).step u v i (adj_symm ha) hi
  rw [h] at e; cases e; omega
section
variable {T : Tab} {K : KindsT T} {P : PlaceT T K} {Q : PcsT T} (C : CentT T K P Q)
theorem CentT.sway_ok (n : Nat) {m ts p q} (hW : Web m ts) (hp : p < m) (hq : q < m) : callN T (n + 7) C.sway [.im (webD m ts), .im (.int (p : Nat)), .im (.int (q : Nat))] = .ret (wayO ts q p) [] := by
  have hm := hW.m10
  have h1 := far_from C.hfar (n + 5) m q ts hW.In hq (by omega)
  have hg := tabO_get (m := m) (f := dst ts q) hp
  rw [callN_succ C.hsway rfl]
  unfold wayO
  cases hd : dst ts q p with
  | none => simp [gb_shortest_way, sg_of K.hcweb, call_web K n hW, sg_of P.hcplace, P.ok (n + 2) m ts p hp, P.ok (n + 2) m ts q hq, sg_of C.hfar, h1, hg, hd]
  | some k =>
    simp [gb_shortest_way, sg_of K.hcweb, call_web K n hW, sg_of P.hcplace, P.ok (n + 2) m ts p hp, P.ok (n + 2) m ts q hq, sg_of C.hfar, h1, hg, hd]
    have hk := dst_lt hW.In hq hd
    refine whl_F k (SWi m ts p q k) (fun ε => ε 4 = some (.ls ((way ts (dst ts q) k p).map dn))) ?_ (by omega) ?_ ?_
    · exact ⟨[], p, by simp, by simp, by simp, by simp, hd, hp, by simp, by simp; omega⟩
    · rintro j ε ⟨pre, v, hS⟩
      by_cases hv : v = q
      · left
        exact ⟨ε, by simp [hS.i4, hS.i2, hv], hS.done hv⟩
      · right
        obtain ⟨i, rfl⟩ := hS.more hv
        refine ⟨ε, by simp [hS.i4, hS.i2, hv], ?_⟩
        simp only [evSs_cons, evS_asg]
        rw [lc_filter0 pD ts (fun t => decide (v = t.1 ∨ v = t.2)) (fun t => dn (t.1 + t.2 - v))]
        · rw [show ((ts.filter fun t => decide (v = t.1 ∨ v = t.2)).map fun t => dn (t.1 + t.2 - v)) = (nbr ts v).map dn by unfold nbr; rw [List.map_map]; rfl]
          simp [hS.i4, -List.map_append]
          rw [lc_filter1 dn (nbr ts v) (fun u => decide (dst ts q u = some i)) dn]
          · have hmin := (nxt_mem (dst_isDist ts q) hS.d).1
            have hl := hS.len
            have hmin' : prim Prim.min1 [.lst (((nbr ts v).filter fun u => decide (dst ts q u = some i)).map dn)] = some (.im (.int (nxt ts (dst ts q) i v))) := by rw [pr_min1, hmin]; rfl
            have hap : ∀ (ε : Env) (o : O), ε 4 = some (.ls ((pre ++ [v]).map dn)) → appTo ε 4 o = .ok (.im .non) (up ε 4 (.ls ((pre ++ [v]).map dn ++ [o.er]))) := fun ε o h => appTo_ls h (by simp; omega)
            simp only [List.map_append] at hap
            simp [hmin', hS.i4, hap]
            exact ⟨i, by omega, hS.next hW.In (by simp [hS.i0]) (by simp [hS.i2]) (by simp [hS.i3]) (by simp)⟩
          · simp
          · have h1 := List.length_filter_le (fun t => decide (v = t.1 ∨ v = t.2)) ts
            have h2 := hW.len
            simp only [nbr, List.length_map]; omega
          · intro u hu
            obtain ⟨hum, l, hl, _⟩ := nbr_some hW.In hS.d hu
            have hgu := tabO_get (m := m) (f := dst ts q) hum
            have hgv := tabO_get (m := m) (f := dst ts q) hS.lt
            refine ⟨up (wipe [6] (up (up (rez [6, 7] ε) 5 (.ls ((nbr ts v).map dn))) 5 (.im (.lst ((nbr ts v).map dn))))) 6 (.im (.int u)), ?_, by simp⟩
            by_cases hc : l = i <;> simp [hS.i3, hS.i4, hgu, hgv, hl, hS.d, hc]
        · simp [hS.i0]
        · have := hW.len; omega
        · rintro ⟨a, b⟩ hab
          refine ⟨up (up (wipe [6, 7] ε) 6 (.im (.int a))) 7 (.im (.int b)), ?_, by simp⟩
          by_cases hc : v = a ∨ v = b
          · have e : (a : Int) + b - v = ((a + b - v : Nat) : Int) := by omega
            simp [pD, hS.i4, hc, e]
          · simp [pD, hS.i4, hc]
    · intro ε h
      simp [h]
end
end Ev
end
section
set_option linter.all false
set_option maxRecDepth 100000
set_option maxHeartbeats 4000000
/-! The law's own distances and ways. -/
namespace Ev
open PySem Gr
noncomputable def under (ts : Ties) (p s v : Nat) : Option Nat := if (∃ k, dst ts p v = some k ∧ k < s) then dst ts p v else none
open Classical in
theorem under_eq (ts p s v) : under ts p s v = match dst ts p v with | none => none | some k => if k < s then some k else none := by
  unfold under
  cases e : dst ts p v with
  | none => simp
  | some k => by_cases h : k < s <;> simp [h]
structure LF (m : Nat) (ts : Ties) (p s : Nat) (near : List Nat) (ε : Env) : Prop where
  i0 : ε 0 = some (.im (webD m ts))
  i2 : ε 2 = some (.ls (tabO m (under ts p s)))
  i3 : ε 3 = some (.ls (near.map dn))
  i6 : qt (ε 6) = true
  nr : ∀ v, v ∈ near ↔ v < m ∧ dst ts p v = some s
  len : near.length ≤ m
def LFo (m : Nat) (ts : Ties) (p s : Nat) (ε : Env) : Prop := ∃ near, LF m ts p s near ε
structure LG (m : Nat) (ts : Ties) (p s : Nat) (near done : List Nat) (ε : Env) : Prop where
  i0 : ε 0 = some (.im (webD m ts))
  i2 : ε 2 = some (.ls (tabO m (fun v => if v ∈ done then some s else under ts p s v)))
  i3 : ε 3 = some (.im (.lst (near.map dn)))
  i4 : ε 4 = some (.im (.int s))
  i6 : qt (ε 6) = true
theorem law_far {T : Tab} {g : Nat} (hf : T g = some ⟨2, [], gb__law_far⟩) (n m p : Nat) (ts : Ties) (hin : In m ts) (hl : ts.length ≤ 1000) (hp : p < m) (hm : m ≤ 1000) :
    callN T (n + 1) g [.im (webD m ts), .im (.int p)] = .ret (.ls (tabO m (dst ts p))) [] := by
  rw [callN_succ hf rfl]
  have e1 := pr_mul_lst1 .non m (by omega)
  simp [gb__law_far, e1, tabO_none]
  refine rng_F (lo := 0) (n := m) (LFo m ts p) ?_ ?_ ?_ ?_
  · simp; rw [itR_nat _ _ (by omega)]
  · refine ⟨[p], by simp, ?_, by simp, by simp, ?_, by simp; omega⟩
    · have hu : under ts p 0 = fun _ => none := by funext v; rw [under_eq]; cases dst ts p v <;> simp
      rw [hu]; simp
    · intro v
      rw [List.mem_singleton]
      constructor
      · rintro rfl; exact ⟨hp, (dst_isDist ts v).at_p⟩
      · rintro ⟨_, h⟩; exact (dst_isDist ts p).zero v h
  · rintro s ε hs ⟨near, ⟨i0, i2, i3, i6, hnr, hnl⟩⟩
    simp
    refine for_S (ε1 := up (up ε 4 (.im (.int s))) 3 (.im (.lst (near.map dn)))) dn near (LG m ts p s near) ?_ ?_ ?_ ?_
    · simp [i3]
    · exact ⟨by simp [i0], by simp [i2], by simp, by simp, by simp [i6]⟩
    · rintro done x rest ε e ⟨i0, i2, i3, i4, i6⟩
      have hx : x < m ∧ dst ts p x = some s := (hnr x).mp (by rw [← e]; simp)
      have hux : under ts p s x = none := by rw [under_eq, hx.2]; simp
      have hset : ∀ f : Nat → Option Nat, f = (fun v => if v ∈ done then some s else under ts p s v) → upd f x s = fun v => if v ∈ done ++ [x] then some s else under ts p s v := by
        rintro f rfl; funext v
        by_cases hv : v = x <;> by_cases hd : v ∈ done <;> simp [upd, hv, hd]
      by_cases hd : x ∈ done
      · simp [i2, i4, hd, hx.1]
        refine ⟨by simp [i0], ?_, by simp [i3], by simp [i4], by simp [i6]⟩
        simp only [up_same]
        rw [tabO_set, hset _ rfl]
      · simp [i2, i4, hd, hux, hx.1]
        refine ⟨by simp [i0], ?_, by simp [i3], by simp [i4], by simp [i6]⟩
        simp only [up_same]
        rw [tabO_set, hset _ rfl]
    · rintro ε ⟨i0, i2, i3, i4, i6⟩
      have hfn : (fun v => if v ∈ near then some s else under ts p s v) = fun v => if v < m then under ts p (s + 1) v else if v ∈ near then some s else under ts p s v := by
        funext v
        by_cases hv : v < m
        · rw [if_pos hv, under_eq, under_eq]
          cases e : dst ts p v with
          | none => have : v ∉ near := fun h => by have := (hnr v).mp h; simp [e] at this
                    simp [this]
          | some k =>
            by_cases hk : k = s
            · have : v ∈ near := (hnr v).mpr ⟨hv, by rw [e, hk]⟩
              simp [this, hk]
            · have : v ∉ near := fun h => by have := (hnr v).mp h; simp [e] at this; omega
              have h2 : (k < s + 1) = (k < s) := by simp only [eq_iff_iff]; omega
              simp only [this, if_false, h2]
        · rw [if_neg hv]
      have htab : tabO m (fun v => if v ∈ near then some s else under ts p s v) = tabO m (under ts p (s + 1)) := by
        rw [hfn]; unfold tabO; apply List.map_congr_left; intro v hv; show oD (if v < m then _ else _) = _; rw [if_pos (List.mem_range.mp hv)]
      rw [htab] at i2
      have key : ∀ (v : Nat) (ε : Env), ε 0 = some (.im (webD m ts)) → ε 5 = some (.im (.int v)) → ε 3 = some (.im (.lst (near.map dn))) →
          evE (callN T n) T.sg (.lc (.cst (.int 1)) (.name 6) (.pr .idx [.var 0, .cst (.int 1)]) [.and [.pr .in_ [.var 5, .var 6], .pr .in_ [.pr .sub [.pr .sum1 [.var 6], .var 5], .var 3]]] [6]) ε =
          .ok (.ls ((ts.filter fun t => decide (v = t.1 ∨ v = t.2) && decide (t.1 + t.2 - v ∈ near)).map fun _ => .int 1)) (rez [6] ε) := by
        intro v ε h0 h5 h3
        rw [lc_filter0 pD ts (fun t => decide (v = t.1 ∨ v = t.2) && decide (t.1 + t.2 - v ∈ near)) (fun _ => .int 1)]
        · simp [h0]
        · omega
        · rintro ⟨a, b⟩ hab
          refine ⟨up (wipe [6] ε) 6 (.im (pD (a, b))), ?_, by simp⟩
          by_cases hc : v = a ∨ v = b
          · have e : (a : Int) + b - v = ((a + b - v : Nat) : Int) := by omega
            by_cases hc2 : a + b - v ∈ near <;> simp [pD, h5, h3, hc, e, pr_in_dn, hc2]
          · simp [pD, h5, h3, hc]
      simp only [evSs_cons, evSs_nil, evS_asg]
      rw [lc_filter0 dn (List.range m) (fun v => decide (dst ts p v = some (s + 1))) dn]
      · simp
        refine ⟨(List.range m).filter fun v => decide (dst ts p v = some (s + 1)), by simp [i0], by simp [i2], by simp, by simp; cases h : ε 6 <;> simp_all, by simp, ?_⟩
        have := List.length_filter_le (fun v => decide (dst ts p v = some (s + 1))) (List.range m)
        simpa using this
      · simp [i0]; rw [itR_nat _ _ (by omega), rngD_zero]
      · simp; omega
      · intro v hv
        have hv : v < m := List.mem_range.mp hv
        have hg := tabO_get (m := m) (f := under ts p (s + 1)) hv
        have hk := key v (up (wipe [5] ε) 5 (.im (.int v))) (by simp [i0]) (by simp) (by simp [i3])
        by_cases hu : under ts p (s + 1) v = none
        · refine ⟨rez [6] (up (wipe [5] ε) 5 (.im (.int v))), ?_, by simp [i6]⟩
          simp [i2, hg, hu, hk]
          have hiff : (ts.filter fun t => decide (v = t.1 ∨ v = t.2) && decide (t.1 + t.2 - v ∈ near)).isEmpty = !decide (dst ts p v = some (s + 1)) := by
            rw [Bool.eq_iff_iff]
            simp only [List.isEmpty_iff, Bool.not_eq_true', decide_eq_false_iff_not, List.filter_eq_nil_iff, Bool.and_eq_true, decide_eq_true_eq, not_and]
            constructor
            · intro h hd
              obtain ⟨u, ha, hu'⟩ := (dst_isDist ts p).back v s hd
              have hun : u ∈ near := (hnr u).mpr ⟨(hin.adj ha).1, hu'⟩
              rcases ha with ha | ha
              · exact h (u, v) ha (.inr rfl) (by simpa using hun)
              · exact h (v, u) ha (.inl rfl) (by simpa using hun)
            · rintro h ⟨a, b⟩ ht hc hn
              apply h
              have ha : adj ts (a + b - v) v := by
                rcases hc with rfl | rfl
                · simp only [Nat.add_sub_cancel_left]; exact .inr ht
                · simp only [Nat.add_sub_cancel]; exact .inl ht
              obtain ⟨j, hj, e⟩ := (dst_isDist ts p).step _ v s ha ((hnr _).mp hn).2
              rw [under_eq, e] at hu
              simp at hu
              rw [e, show j = s + 1 by omega]
          simp only [Bool.decide_and, Bool.decide_or] at hiff ⊢
          rw [hiff]
          by_cases hd : dst ts p v = some (s + 1) <;> simp [hd]
        · refine ⟨up (wipe [5] ε) 5 (.im (.int v)), ?_, by simp⟩
          have hu' : (under ts p (s + 1) v).isNone = false := by cases h : under ts p (s + 1) v <;> simp_all
          have hd : ¬ dst ts p v = some (s + 1) := by
            intro h; apply hu; rw [under_eq, h]; simp
          simp [i2, hg, hu', hd]
  · rintro ε ⟨near, i0, i2, i3, i6, hnr, hnl⟩
    have : tabO m (under ts p m) = tabO m (dst ts p) := by
      unfold tabO; apply List.map_congr_left; intro v hv
      rw [under_eq]
      cases e : dst ts p v with
      | none => rfl
      | some k => show oD (if k < m then some k else none) = _; rw [if_pos (dst_lt hin hp e)]
    simp [i2, this]
theorem law_way {T : Tab} {g h : Nat} (hg : T g = some ⟨3, [], gb__law_way h⟩) (hh : T h = some ⟨2, [], gb__law_far⟩) (n : Nat) {m ts p q} (hW : Web m ts) (hp : p < m) (hq : q < m) :
    callN T (n + 2) g [.im (webD m ts), .im (.int (p : Nat)), .im (.int (q : Nat))] = .ret (wayO ts q p) [] := by
  have hm := hW.m10
  have h1 := law_far hh n m q ts hW.In (by have := hW.len; omega) hq (by omega)
  have hgp := tabO_get (m := m) (f := dst ts q) hp
  rw [callN_succ hg rfl]
  unfold wayO
  cases hd : dst ts q p with
  | none => simp [gb__law_way, sg_of hh, h1, hgp, hd]
  | some k =>
    simp [gb__law_way, sg_of hh, h1, hgp, hd]
    have hk := dst_lt hW.In hq hd
    refine whl_F k (SWi m ts p q k) (fun ε => ε 4 = some (.ls ((way ts (dst ts q) k p).map dn))) ?_ (by omega) ?_ ?_
    · exact ⟨[], p, by simp, by simp, by simp, by simp, hd, hp, by simp, by simp; omega⟩
    · rintro j ε ⟨pre, v, hS⟩
      by_cases hv : v = q
      · left
        exact ⟨ε, by simp [hS.i4, hS.i2, hv], hS.done hv⟩
      · right
        obtain ⟨i, rfl⟩ := hS.more hv
        refine ⟨ε, by simp [hS.i4, hS.i2, hv], ?_⟩
        simp only [evSs_cons, evS_asg]
        rw [lc_filter0 pD ts (fun t => decide (v = t.1 ∨ v = t.2)) (fun t => dn (t.1 + t.2 - v))]
        · rw [show ((ts.filter fun t => decide (v = t.1 ∨ v = t.2)).map fun t => dn (t.1 + t.2 - v)) = (nbr ts v).map dn by unfold nbr; rw [List.map_map]; rfl]
          simp [hS.i4, -List.map_append]
          rw [lc_filter1 dn (nbr ts v) (fun u => decide (dst ts q u = some i)) dn]
          · have hmin := (nxt_mem (dst_isDist ts q) hS.d).1
            have hl := hS.len
            have hmin' : prim Prim.min1 [.lst (((nbr ts v).filter fun u => decide (dst ts q u = some i)).map dn)] = some (.im (.int (nxt ts (dst ts q) i v))) := by rw [pr_min1, hmin]; rfl
            have hap : ∀ (ε : Env) (o : O), ε 4 = some (.ls ((pre ++ [v]).map dn)) → appTo ε 4 o = .ok (.im .non) (up ε 4 (.ls ((pre ++ [v]).map dn ++ [o.er]))) := fun ε o h => appTo_ls h (by simp; omega)
            simp only [List.map_append] at hap
            simp [hmin', hS.i4, hap]
            exact ⟨i, by omega, hS.next hW.In (by simp [hS.i0]) (by simp [hS.i2]) (by simp [hS.i3]) (by simp)⟩
          · simp
          · have h1 := List.length_filter_le (fun t => decide (v = t.1 ∨ v = t.2)) ts
            have h2 := hW.len
            simp only [nbr, List.length_map]; omega
          · intro u hu
            obtain ⟨hum, l, hl, _⟩ := nbr_some hW.In hS.d hu
            have hlow := nbr_low hW.In hS.d hu hl
            have hgu := tabO_get (m := m) (f := dst ts q) hum
            have hgv := tabO_get (m := m) (f := dst ts q) hS.lt
            refine ⟨up (wipe [7] (up (up (rez [6] ε) 5 (.ls ((nbr ts v).map dn))) 5 (.im (.lst ((nbr ts v).map dn))))) 7 (.im (.int u)), ?_, by simp⟩
            by_cases hc : l = i
            · have : (l : Int) < (i : Int) + 1 := by omega
              have h2 : (i : Int) < (i : Int) + 1 := by omega
              simp [hS.i3, hS.i4, hgu, hgv, hl, hS.d, hc, this, h2]
            · have : ¬ (l : Int) < (i : Int) + 1 := by omega
              simp [hS.i3, hS.i4, hgu, hgv, hl, hS.d, hc, this]
        · simp [hS.i0]
        · have := hW.len; omega
        · rintro ⟨a, b⟩ hab
          refine ⟨up (wipe [6] ε) 6 (.im (pD (a, b))), ?_, by simp⟩
          by_cases hc : v = a ∨ v = b
          · have e : (a : Int) + b - v = ((a + b - v : Nat) : Int) := by omega
            simp [pD, hS.i4, hc, e]
          · simp [pD, hS.i4, hc]
    · intro ε h
      simp [h]
end Ev
end
section
set_option linter.all false
set_option maxRecDepth 100000
set_option maxHeartbeats 4000000
/-! Far ends. -/
namespace Ev
open PySem Gr
def pairsTo (m i : Nat) : List (Nat × Nat) := (List.range i).flatMap fun a => (List.range' a (m - a)).map fun b => (a, b)
theorem pairsTo_succ (m i : Nat) : pairsTo m (i + 1) = pairsTo m i ++ (List.range' i (m - i)).map fun b => (i, b) := by simp [pairsTo, List.range_succ]
theorem mem_pairsTo {m i : Nat} {p : Nat × Nat} : p ∈ pairsTo m i ↔ p.1 < i ∧ p.1 ≤ p.2 ∧ p.2 < max m p.1 := by
  obtain ⟨a, b⟩ := p
  simp only [pairsTo, List.mem_flatMap, List.mem_range, List.mem_map, List.mem_range'_1, Prod.mk.injEq]
  constructor
  · rintro ⟨c, hc, d, hd, rfl, rfl⟩; omega
  · rintro ⟨h1, h2, h3⟩; exact ⟨a, h1, b, by omega, rfl, rfl⟩
noncomputable def farP (m : Nat) (ts : Ties) : Nat × Nat := (((pairsTo m m).filter fun p => decide (dv ts p.1 p.2 = mx (rimL m ts))).head?).getD (0, 0)
def Bst (ts : Ties) (L : List (Nat × Nat)) (best : Int) (found : D) : Prop :=
  (L = [] ∧ best = -1 ∧ found = .non) ∨ ∃ (k : Nat) (p : Nat × Nat), best = k ∧ found = pD p ∧ (L.filter fun q => decide (dv ts q.1 q.2 = k)).head? = some p ∧ ∀ q ∈ L, dv ts q.1 q.2 ≤ k
theorem Bst.more {ts L best found} (h : Bst ts L best found) (a b : Nat) (hlt : best < dv ts a b) : Bst ts (L ++ [(a, b)]) (dv ts a b : Nat) (pD (a, b)) := by
  right
  refine ⟨dv ts a b, (a, b), rfl, rfl, ?_, ?_⟩
  · have : L.filter (fun q => decide (dv ts q.1 q.2 = dv ts a b)) = [] := by
      rw [List.filter_eq_nil_iff]
      intro q hq
      rcases h with ⟨rfl, _⟩ | ⟨k, p, rfl, _, _, h⟩
      · cases hq
      · have := h q hq
        simp; omega
    rw [List.filter_append, this]; simp
  · intro q hq
    rcases List.mem_append.mp hq with hq | hq
    · rcases h with ⟨rfl, _⟩ | ⟨k, p, rfl, _, _, h⟩
      · cases hq
      · have := h q hq
        omega
    · rw [List.mem_singleton.mp hq]; exact Nat.le_refl _
theorem Bst.same {ts L best found} (h : Bst ts L best found) (a b : Nat) (hlt : ¬ best < dv ts a b) : Bst ts (L ++ [(a, b)]) best found := by
  rcases h with ⟨_, rfl, _⟩ | ⟨k, p, rfl, rfl, h1, h2⟩
  · omega
  · right
    refine ⟨k, p, rfl, rfl, ?_, ?_⟩
    · rw [List.filter_append, List.head?_append, h1]; rfl
    · intro q hq
      rcases List.mem_append.mp hq with hq | hq
      · exact h2 q hq
      · rw [List.mem_singleton.mp hq]; show dv ts a b ≤ k; omega
theorem le_mx {xs : List Nat} {x : Nat} (h : x ∈ xs) : x ≤ mx xs := by
  unfold mx
  cases e : xs.max? with
  | none => rw [List.max?_eq_none_iff.mp e] at h; cases h
  | some k => exact (List.max?_eq_some_iff.mp e).2 x h
theorem mx_mem {xs : List Nat} (h : xs ≠ []) : mx xs ∈ xs := by
  unfold mx
  cases e : xs.max? with
  | none => exact absurd (List.max?_eq_none_iff.mp e) h
  | some k => exact (List.max?_eq_some_iff.mp e).1
theorem mn_le {xs : List Nat} {x : Nat} (h : x ∈ xs) : mn xs ≤ x := by
  unfold mn
  cases e : xs.min? with
  | none => rw [List.min?_eq_none_iff.mp e] at h; cases h
  | some k => exact (List.min?_eq_some_iff.mp e).2 x h
theorem mn_mem {xs : List Nat} (h : xs ≠ []) : mn xs ∈ xs := by
  unfold mn
  cases e : xs.min? with
  | none => exact absurd (List.min?_eq_none_iff.mp e) h
  | some k => exact (List.min?_eq_some_iff.mp e).1
theorem dv_le_mx {m ts u v} (hu : u < m) (hv : v < m) : dv ts u v ≤ mx (rimL m ts) :=
  Nat.le_trans (le_mx (xs := row m ts u) (List.mem_map.mpr ⟨v, List.mem_range.mpr hv, rfl⟩)) (le_mx (xs := rimL m ts) (List.mem_map.mpr ⟨u, List.mem_range.mpr hu, rfl⟩))
theorem mx_at {m ts} (hm : 1 ≤ m) : ∃ u v, u < m ∧ v < m ∧ dv ts u v = mx (rimL m ts) := by
  have h1 := mx_mem (xs := rimL m ts) (by simp [rimL]; omega)
  obtain ⟨u, hu, e⟩ := List.mem_map.mp h1
  have h2 := mx_mem (row_ne (ts := ts) (p := u) hm)
  obtain ⟨v, hv, e'⟩ := List.mem_map.mp h2
  exact ⟨u, v, List.mem_range.mp hu, List.mem_range.mp hv, e'.trans e⟩
theorem dv_symm (ts u v) : dv ts u v = dv ts v u := by unfold dv; rw [dst_symm]
theorem Bst.end {m ts best found} (hm : 1 ≤ m) (h : Bst ts (pairsTo m m) best found) : found = pD (farP m ts) := by
  rcases h with ⟨h, _⟩ | ⟨k, p, rfl, rfl, h1, h2⟩
  · have : (0, 0) ∈ pairsTo m m := mem_pairsTo.mpr ⟨hm, by simp, by simp; omega⟩
    rw [h] at this; cases this
  · have hk : k = mx (rimL m ts) := by
      apply Nat.le_antisymm
      · have hp := List.mem_of_mem_head? h1
        rw [List.mem_filter, mem_pairsTo, decide_eq_true_eq] at hp
        rw [← hp.2]
        exact dv_le_mx (by omega) (by omega)
      · obtain ⟨u, v, hu, hv, e⟩ := mx_at (ts := ts) hm
        rw [← e]
        rcases Nat.le_total u v with h | h
        · exact h2 (u, v) (mem_pairsTo.mpr (by simp; omega))
        · rw [dv_symm]; exact h2 (v, u) (mem_pairsTo.mpr (by simp; omega))
    subst hk
    unfold farP
    rw [h1]; rfl
structure FE (m : Nat) (ts : Ties) (L : List (Nat × Nat)) (ε : Env) : Prop where
  i0 : ε 0 = some (.im (webD m ts))
  bs : ∃ best found, ε 1 = some (.im (.int best)) ∧ ε 2 = some (.im found) ∧ Bst ts L best found
structure FEi (m : Nat) (ts : Ties) (i : Nat) (L : List (Nat × Nat)) (ε : Env) : Prop where
  i0 : ε 0 = some (.im (webD m ts))
  i3 : ε 3 = some (.im (.int i))
  i4 : ε 4 = some (.ls ((row m ts i).map dn))
  bs : ∃ best found, ε 1 = some (.im (.int best)) ∧ ε 2 = some (.im found) ∧ Bst ts L best found
section
variable {T : Tab} {K : KindsT T} {P : PlaceT T K} {Q : PcsT T} (C : CentT T K P Q)
theorem CentT.ends_ok (n : Nat) {m ts} (hW : Web m ts) (hp : ¬ 1 < (Gr.pcs m ts).length) : callN T (n + 7) C.ends [.im (webD m ts)] = .ret (.im (pD (farP m ts))) [] := by
  have hm := hW.m10
  have hm1 := hW.m1
  rw [callN_succ C.hends rfl]
  simp [gb_far_ends, sg_of K.hcweb, call_web K n hW, sg_of C.hjoined, C.joined_whole (n + 3) hW hp]
  refine rng_F (lo := 0) (n := m) (fun i => FE m ts (pairsTo m i)) ?_ ?_ ?_ ?_
  · simp; rw [itR_nat _ _ (by omega)]
  · exact ⟨by simp, -1, .non, by simp, by simp, .inl ⟨by simp [pairsTo], rfl, rfl⟩⟩
  · rintro i ε hi ⟨i0, best, found, i1, i2, hb⟩
    have h1 := far_from C.hfar (n + 5) m i ts hW.In hi (by omega)
    rw [tabO_row hW hp hi] at h1
    simp [i0, sg_of C.hfar, h1]
    refine rng_S (lo := (i : Int)) (n := m - i) (fun j => FEi m ts i (pairsTo m i ++ (List.range' i j).map fun b => (i, b))) ?_ ?_ ?_ ?_
    · simp [i0]; rw [itR_two _ _ _ (by omega), show ((m : Int) - i).toNat = m - i by omega]
    · exact ⟨by simp [i0], by simp, by simp, best, found, by simp [i1], by simp [i2], by simpa using hb⟩
    · rintro j ε hj ⟨i0, i3, i4, best, found, i1, i2, hb⟩
      have hg : (row m ts i)[i + j]? = some (dv ts i (i + j)) := by
        have : i + j < m := by omega
        simp [row, this]
      have hL : pairsTo m i ++ (List.range' i (j + 1)).map (fun b => (i, b)) = pairsTo m i ++ (List.range' i j).map (fun b => (i, b)) ++ [(i, i + j)] := by
        rw [List.range'_concat]; simp
      rw [hL, show ((i : Int) + j) = ((i + j : Nat) : Int) by omega]
      generalize i + j = b at *
      by_cases hc : best < dv ts i b
      · simp [i1, i3, i4, hg, hc, -Int.natCast_add, -List.append_assoc]
        exact ⟨by simp [i0], by simp [i3], by simp [i4], _, _, rfl, rfl, hb.more i b hc⟩
      · simp [i1, i4, hg, hc, -Int.natCast_add, -List.append_assoc]
        exact ⟨by simp [i0], by simp [i3], by simp [i4], best, found, by simp [i1], by simp [i2], hb.same i b hc⟩
    · rintro ε ⟨i0, i3, i4, hb⟩
      refine ⟨ε, by simp, i0, ?_⟩
      rw [pairsTo_succ]; exact hb
  · rintro ε ⟨i0, best, found, i1, i2, hb⟩
    rw [hb.end hm1] at i2
    simp [i2]
end
end Ev
end
section
set_option linter.all false
set_option maxRecDepth 100000
set_option maxHeartbeats 4000000
/-! What repr tells of webs is a text of good signs, not long. -/
namespace Ev
open PySem Gr
def Nice (n : Nat) (s : Str) : Prop := s.length ≤ n ∧ s.cps.all (· < 0x110000) = true
theorem Nice.append {n m s t} (h : Nice n s) (h' : Nice m t) : Nice (n + m) (s ++ t) := by
  refine ⟨?_, ?_⟩
  · show (s.cps ++ t.cps).size ≤ _
    have h1 := h.1; have h2 := h'.1
    unfold Str.length at h1 h2
    rw [Array.size_append]; omega
  · show (s.cps ++ t.cps).all _ = true
    rw [Array.all_append, h.2, h'.2]; rfl
theorem Nice.mono {n m s} (h : Nice n s) (hn : n ≤ m) : Nice m s := ⟨Nat.le_trans h.1 hn, h.2⟩
theorem nice_join {n : Nat} : ∀ ts : List Str, (∀ t ∈ ts, Nice n t) → Nice (ts.length * (n + 2)) (Str.join ", " ts)
  | [], _ => ⟨Nat.zero_le _, by show (#[] : Array Nat).all _ = true; simp⟩
  | [x], h => (h x (by simp)).mono (by simp)
  | x :: y :: r, h => by
    have h1 := h x (by simp)
    have h2 := nice_join (y :: r) (fun t ht => h t (List.mem_cons_of_mem _ ht))
    have h3 : Nice 2 ((", " : String) : Str) := ⟨by decide +kernel, by decide +kernel⟩
    refine ((h1.append h3).append h2).mono ?_
    simp only [List.length_cons, Nat.add_mul]; omega
theorem nice_from {n : Nat} : ∀ (ts : List Str) (k : Nat) (acc : Str) (m : Nat), Nice m acc → (∀ t ∈ ts, Nice n t) → Nice (m + ts.length * (n + 2)) (textFrom k acc ts)
  | [], _, acc, m, h, _ => h.mono (by simp)
  | t :: ts, k, acc, m, h, ht => by
    have h3 : Nice 2 ((if k > 0 then ", " else "" : String) : Str) := by
      by_cases hk : k > 0
      · rw [if_pos hk]; exact ⟨by decide +kernel, by decide +kernel⟩
      · rw [if_neg hk]; exact ⟨by decide +kernel, by decide +kernel⟩
    have := nice_from (n := n) ts (k + 1) _ _ ((h.append h3).append (ht t (by simp))) (fun t h => ht t (List.mem_cons_of_mem _ h))
    refine this.mono ?_
    simp only [List.length_cons, Nat.add_mul]; omega
theorem nice_tuple {n : Nat} (ts : List Str) (h : ∀ t ∈ ts, Nice n t) : Nice (1 + ts.length * (n + 2) + 2) (tupleText ts) := by
  have h1 : Nice 1 (("(" : String) : Str) := ⟨by decide +kernel, by decide +kernel⟩
  have h3 : Nice 2 ((if ts.length == 1 then ",)" else ")" : String) : Str) := by
    by_cases hk : (ts.length == 1) = true
    · rw [if_pos hk]; exact ⟨by decide +kernel, by decide +kernel⟩
    · rw [if_neg hk]; exact ⟨by decide +kernel, by decide +kernel⟩
  exact (h1.append (nice_join ts h)).append h3
theorem nice_list {n : Nat} (ts : List Str) (h : ∀ t ∈ ts, Nice n t) : Nice (1 + ts.length * (n + 2) + 1) (PySem.listText ts) := by
  have h1 : Nice 1 (("[" : String) : Str) := ⟨by decide +kernel, by decide +kernel⟩
  have h3 : Nice 1 (("]" : String) : Str) := ⟨by decide +kernel, by decide +kernel⟩
  exact (nice_from ts 0 _ _ h1 h).append h3
theorem nice_int : ∀ n : Nat, n ≤ 24 → Nice 2 ((PyData.int n).shown) := by
  have : ∀ n : Fin 25, (decide (((PyData.int (n.val : Int)).shown).length ≤ 2) && ((PyData.int (n.val : Int)).shown).cps.all (· < 0x110000)) = true := by decide +kernel
  intro n hn
  have h := this ⟨n, by omega⟩
  rw [Bool.and_eq_true, decide_eq_true_eq] at h
  exact h
theorem shownAll_map {α : Type} (f : α → PyData) (xs : List α) : PyData.shownAll (xs.map f) = xs.map fun x => (f x).shown := by
  induction xs with
  | nil => rfl
  | cons x xs ih => simp [PyData.shownAll, ih]
theorem showableAll_map {α : Type} (f : α → PyData) (xs : List α) (h : ∀ x ∈ xs, (f x).showable = true) : PyData.showableAll (xs.map f) = true := by
  induction xs with
  | nil => rfl
  | cons x xs ih => simp only [List.map_cons, PyData.showableAll, h x (by simp), ih (fun y hy => h y (List.mem_cons_of_mem _ hy)), Bool.and_self]
theorem pys_map {α : Type} (f : α → D) (xs : List α) : D.pys (xs.map f) = xs.map fun x => (f x).py := by
  induction xs with
  | nil => rfl
  | cons x xs ih => simp [D.pys, ih]
theorem showable_int (n : Nat) (h : n ≤ 1000) : (PyData.int n).showable = true := by
  simp only [PyData.showable, decide_eq_true_eq, Int.natAbs_natCast]
  by_cases h0 : n = 0
  · rw [h0]; decide
  · have := (Nat.log2_lt h0).mpr (show n < 2 ^ 10 by omega)
    omega
theorem repr_web {m ts} (hW : Web m ts) : ∃ s : Str, prim .repr1 [webD m ts] = some (.im (.str s)) ∧ s.cps.all (· < 0x110000) = true := by
  have h1 : ∀ p ∈ ts, Nice 11 ((pD p).py.shown) := by
    intro p hp
    have := hW.ok p hp
    have hm := hW.m10
    have e : (pD p).py.shown = tupleText [(PyData.int p.1).shown, (PyData.int p.2).shown] := by
      simp only [pD, D.py, D.pys, PyData.shown, PyData.shownAll]
    rw [e]
    refine (nice_tuple (n := 2) _ ?_).mono (by simp)
    intro t ht
    simp only [List.mem_cons, List.not_mem_nil, or_false] at ht
    rcases ht with rfl | rfl
    · exact nice_int _ (by omega)
    · exact nice_int _ (by omega)
  have h2 : Nice 700 ((webD m ts).py.shown) := by
    have e : (webD m ts).py.shown = tupleText [(PyData.int m).shown, PySem.listText (ts.map fun p => (pD p).py.shown)] := by
      simp only [webD, D.py, D.pys, PyData.shown, PyData.shownAll, pys_map, shownAll_map]
    rw [e]
    have hl := hW.len
    have hL := (nice_list (n := 11) (ts.map fun p => (pD p).py.shown) (fun t ht => by
      obtain ⟨p, hp, rfl⟩ := List.mem_map.mp ht; exact h1 p hp)).mono (m := 340) (by simp; omega)
    refine (nice_tuple (n := 340) _ ?_).mono (by simp)
    intro t ht
    simp only [List.mem_cons, List.not_mem_nil, or_false] at ht
    rcases ht with rfl | rfl
    · exact (nice_int m (by have := hW.m10; omega)).mono (by omega)
    · exact hL
  refine ⟨(webD m ts).py.shown, ?_, h2.2⟩
  show (if D.okD (webD m ts) 60 && (webD m ts).py.showable && decide ((webD m ts).py.shown.length ≤ 16777216) then some (O.im (.str (webD m ts).py.shown)) else none) = _
  have h3 : (webD m ts).py.showable = true := by
    have hm := hW.m10
    have e : (webD m ts).py.showable = ((PyData.int m).showable && ((PyData.showableAll (ts.map fun p => (pD p).py)) && true)) := by
      simp only [webD, D.py, D.pys, PyData.showable, PyData.showableAll, pys_map]
    rw [e, showable_int m (by omega), showableAll_map]
    · rfl
    · intro p hp
      have := hW.ok p hp
      have e : (pD p).py.showable = ((PyData.int p.1).showable && ((PyData.int p.2).showable && true)) := by
        simp only [pD, D.py, D.pys, PyData.showable, PyData.showableAll]
      rw [e, showable_int _ (by omega), showable_int _ (by omega)]; rfl
  have h4 : (webD m ts).py.shown.length ≤ 16777216 := Nat.le_trans h2.1 (by omega)
  rw [okD_webD m ts 57, h3, decide_eq_true h4]; rfl
end Ev
end
section
set_option linter.all false
set_option maxRecDepth 100000
set_option maxHeartbeats 4000000
/-! Printed by gen.py: bodies and tables. -/
namespace Ev
namespace K81
open PySem
def b_is_whole : List St := [.ret (.and [.pr .isi [.var 0, .gl (.ty "int")], .not (.pr .isi [.var 0, .gl (.ty "bool")])])]
def b_is_count : List St := [.ret (.and [.call 0 [.var 0], .pr .ge [.var 0, .cst (.int 0)]])]
def b_is_below : List St := [.ret (.and [.call 1 [.var 0], .pr .lt [.var 0, .var 1]])]
def b_is_pair : List St := [.ite (.or [.not (.pr .isi [.var 1, .gl (.ty "tuple")]), .pr .ne [.pr .len [.var 1], .cst (.int 2)]]) [.ret (.cst (.bl false))] [], .ret (.and [.call 2 [.pr .idx [.var 1, .cst (.int 0)], .var 0], .call 2 [.pr .idx [.var 1, .cst (.int 1)], .var 0], .pr .lt [.pr .idx [.var 1, .cst (.int 0)], .pr .idx [.var 1, .cst (.int 1)]]])]
def b_is_web : List St := [.ite (.or [.not (.pr .isi [.var 0, .gl (.ty "tuple")]), .pr .ne [.pr .len [.var 0], .cst (.int 2)], .not (.call 0 [.pr .idx [.var 0, .cst (.int 0)]]), .not (.chain .le .le (.cst (.int 1)) (.pr .idx [.var 0, .cst (.int 0)]) (.gl (.int 0 10)))]) [.ret (.cst (.bl false))] [], .asg (.tup [.name 1, .name 2]) (.var 0), .ite (.or [.not (.pr .isi [.var 2, .gl (.ty "list")]), .pr .gt [.pr .len [.var 2], .gl (.int 1 24)], .pr .ne [.lc (.var 3) (.name 3) (.var 2) [.not (.call 3 [.var 1, .var 3])] [3], .lst []]]) [.ret (.cst (.bl false))] [], .ret (.pr .eq [.var 2, .pr .sorted1 [.var 2]])]
def b_check_web : List St := [.ite (.not (.call 4 [.var 0])) [.rse 0 (.var 0)] []]
def b_check_place : List St := [.ite (.not (.call 2 [.var 1, .pr .idx [.var 0, .cst (.int 0)]])) [.rse 1 (.var 1)] []]
def b_labels_of : List St := [.asg (.name 2) (.pr .lrng [.var 0]), .for_ (.tup [.name 3, .name 4]) (.var 1) [.par [5, 6] [.pr .min2 [.pr .idx [.var 2, .var 3], .pr .idx [.var 2, .var 4]], .pr .max2 [.pr .idx [.var 2, .var 3], .pr .idx [.var 2, .var 4]]], .asg (.name 2) (.lc (.ite (.pr .eq [.var 7, .var 6]) (.var 5) (.var 7)) (.name 7) (.var 2) [] [7])], .ret (.var 2)]
def b_pieces_of : List St := [.asg (.name 2) (.call 7 [.var 0, .var 1]), .ret (.lc (.lc (.var 4) (.name 4) (.rng [.var 0]) [.pr .eq [.pr .idx [.var 2, .var 4], .var 3]] [4]) (.name 3) (.rng [.var 0]) [.pr .in_ [.var 3, .var 2]] [3])]
def b_check_all_joined : List St := [.ite (.pr .gt [.pr .len [.call 8 [.pr .idx [.var 0, .cst (.int 0)], .pr .idx [.var 0, .cst (.int 1)]]], .cst (.int 1)]) [.rse 2 (.call 8 [.pr .idx [.var 0, .cst (.int 0)], .pr .idx [.var 0, .cst (.int 1)]])] []]
def b_far_from : List St := [.asg (.name 2) (.pr .mul [.lst [.cst .non], .pr .idx [.var 0, .cst (.int 0)]]), .setix 2 (.var 1) (.cst (.int 0)), .asg (.name 3) (.lst [.var 1]), .whl (.pr .ne [.var 3, .lst []]) [.asg (.name 4) (.pr .idx [.var 3, .cst (.int 0)]), .asg (.name 3) (.pr (.slc true false) [.var 3, .cst (.int 1)]), .for_ (.tup [.name 5, .name 6]) (.pr .idx [.var 0, .cst (.int 1)]) [.for_ (.tup [.name 7, .name 8]) (.tup [.tup [.var 5, .var 6], .tup [.var 6, .var 5]]) [.ite (.and [.pr .eq [.var 7, .var 4], .pr .is_ [.pr .idx [.var 2, .var 8], .cst .non]]) [.setix 2 (.var 8) (.pr .add [.pr .idx [.var 2, .var 4], .cst (.int 1)]), .exp (.app 3 (.var 8))] []]]], .ret (.var 2)]
def b_distances : List St := [.exp (.call 5 [.var 0]), .exp (.call 6 [.var 0, .var 1]), .ret (.call 10 [.var 0, .var 1])]
def b_shortest_way : List St := [.exp (.call 5 [.var 0]), .exp (.call 6 [.var 0, .var 1]), .exp (.call 6 [.var 0, .var 2]), .asg (.name 3) (.call 10 [.var 0, .var 2]), .ite (.pr .is_ [.pr .idx [.var 3, .var 1], .cst .non]) [.ret (.cst .non)] [], .asg (.name 4) (.lst [.var 1]), .whl (.pr .ne [.pr .idx [.var 4, .pr .neg [.cst (.int 1)]], .var 2]) [.asg (.name 5) (.lc (.pr .sub [.pr .add [.var 6, .var 7], .pr .idx [.var 4, .pr .neg [.cst (.int 1)]]]) (.tup [.name 6, .name 7]) (.pr .idx [.var 0, .cst (.int 1)]) [.pr .in_ [.pr .idx [.var 4, .pr .neg [.cst (.int 1)]], .tup [.var 6, .var 7]]] [6, 7]), .exp (.app 4 (.pr .min1 [.lc (.var 6) (.name 6) (.var 5) [.pr .eq [.pr .idx [.var 3, .var 6], .pr .sub [.pr .idx [.var 3, .pr .idx [.var 4, .pr .neg [.cst (.int 1)]]], .cst (.int 1)]]] [6]]))], .ret (.var 4)]
def b_rims : List St := [.exp (.call 5 [.var 0]), .exp (.call 9 [.var 0]), .ret (.lc (.pr .max1 [.call 10 [.var 0, .var 1]]) (.name 1) (.rng [.pr .idx [.var 0, .cst (.int 0)]]) [] [1])]
def b_centre : List St := [.asg (.name 1) (.call 13 [.var 0]), .ret (.lc (.var 2) (.name 2) (.rng [.pr .idx [.var 0, .cst (.int 0)]]) [.pr .eq [.pr .idx [.var 1, .var 2], .pr .min1 [.var 1]]] [2])]
def b_width : List St := [.ret (.pr .max1 [.call 13 [.var 0]])]
def b_sums : List St := [.exp (.call 5 [.var 0]), .exp (.call 9 [.var 0]), .ret (.lc (.pr .sum1 [.call 10 [.var 0, .var 1]]) (.name 1) (.rng [.pr .idx [.var 0, .cst (.int 0)]]) [] [1])]
def b_nearest_to_all : List St := [.asg (.name 1) (.call 16 [.var 0]), .ret (.lc (.var 2) (.name 2) (.rng [.pr .idx [.var 0, .cst (.int 0)]]) [.pr .eq [.pr .idx [.var 1, .var 2], .pr .min1 [.var 1]]] [2])]
def b_far_ends : List St := [.exp (.call 5 [.var 0]), .exp (.call 9 [.var 0]), .par [1, 2] [.pr .neg [.cst (.int 1)], .cst .non], .for_ (.name 3) (.rng [.pr .idx [.var 0, .cst (.int 0)]]) [.asg (.name 4) (.call 10 [.var 0, .var 3]), .for_ (.name 5) (.rng [.var 3, .pr .idx [.var 0, .cst (.int 0)]]) [.ite (.pr .gt [.pr .idx [.var 4, .var 5], .var 1]) [.par [1, 2] [.pr .idx [.var 4, .var 5], .tup [.var 3, .var 5]]] []]], .ret (.var 2)]
def b__law_hash : List St := [.asg (.name 2) (.pr .mod [.pr .int1 [.pr .add [.pr .add [.pr .add [.pr .mul [.var 0, .cst (.int 1140671)], .pr .mul [.pr .mul [.cst (.int 27644437), .var 1], .var 1]], .pr .mul [.cst (.int 131), .var 1]], .cst (.int 19)]], .cst (.int 2147483629)]), .asg (.name 2) (.pr .mod [.pr .int1 [.pr .add [.pr .add [.pr .mul [.var 2, .var 2], .pr .mul [.cst (.int 62089), .var 1]], .cst (.int 32416187)]], .cst (.int 2147483587)]), .ret (.pr .mod [.pr .int1 [.pr .mul [.var 2, .cst (.int 48271)]], .cst (.int 2147483647)])]
def b__law_random : List St := [.ite (.pr .gt [.pr .idx [.var 0, .cst (.int 0)], .cst (.int 0)]) [.asg (.name 2) (.pr .mod [.pr .int1 [.pr .idx [.var 0, .cst (.int 0)]], .var 1]), .setix 0 (.cst (.int 0)) (.pr .fdiv [.pr .idx [.var 0, .cst (.int 0)], .var 1]), .ret (.var 2)] [], .asg (.name 2) (.cst (.int 0)), .for_ (.name 3) (.rng [.pr .add [.cst (.int 1), .pr .fdiv [.pr .bitlen [.var 1], .cst (.int 30)]]]) [.setix 0 (.cst (.int 2)) (.pr .add [.pr .idx [.var 0, .cst (.int 2)], .cst (.int 1)]), .asg (.name 2) (.pr .add [.pr .mul [.var 2, .cst (.int 2147483587)], .call 19 [.pr .idx [.var 0, .cst (.int 1)], .pr .idx [.var 0, .cst (.int 2)]]])], .ret (.pr .mod [.pr .int1 [.var 2], .var 1])]
def b__law_cell : List St := [.ite (.pr .lt [.var 1, .pr .len [.var 0]]) [.ret (.pr .idx [.var 0, .var 1])] [], .ret (.pr .mod [.pr .sum1 [.pr (.slc false true) [.var 0, .cst (.int 1)]], .cst (.int 1000003)])]
def b__law_generator : List St := [.asg (.name 2) (.call 21 [.var 0, .var 1]), .ret (.lst [.pr .mod [.pr .int1 [.pr .max2 [.pr .sub [.var 2, .pr .pow [.cst (.int 10), .cst (.int 18)]], .cst (.int 0)]], .pr .pow [.pr .pow [.cst (.int 10), .cst (.int 60)], .cst (.int 10)]], .pr .mod [.pr .int1 [.var 2], .cst (.int 2147483647)], .pr .mul [.cst (.int 1000), .var 1]])]
def b__law_same : List St := [.ite (.or [.pr .is_ [.var 1, .cst .non], .pr .is_ [.var 1, .cst (.bl true)], .pr .is_ [.var 1, .cst (.bl false)]]) [.ret (.ite (.pr .is_ [.var 1, .cst .non]) (.pr .is_ [.var 0, .cst .non]) (.ite (.pr .is_ [.var 1, .cst (.bl true)]) (.pr .is_ [.var 0, .cst (.bl true)]) (.pr .is_ [.var 0, .cst (.bl false)])))] [], .ite (.pr .isi [.var 1, .tup [.gl (.ty "list"), .gl (.ty "tuple")]]) [.ite (.or [.and [.not (.pr .isi [.var 0, .gl (.ty "list")]), .pr .isi [.var 1, .gl (.ty "list")]], .and [.not (.pr .isi [.var 0, .gl (.ty "tuple")]), .pr .isi [.var 1, .gl (.ty "tuple")]]]) [.ret (.cst (.bl false))] [], .ret (.and [.pr .eq [.pr .len [.var 0], .pr .len [.var 1]], .pr .eq [.lc (.var 2) (.name 2) (.rng [.pr .len [.var 1]]) [.not (.call 23 [.pr .idx [.var 0, .var 2], .pr .idx [.var 1, .var 2]])] [2], .lst []]])] [], .ite (.pr .isi [.var 1, .gl (.ty "int")]) [.ret (.and [.pr .isi [.var 0, .gl (.ty "int")], .not (.pr .isi [.var 0, .gl (.ty "bool")]), .pr .eq [.var 0, .var 1]])] [], .ret (.and [.pr .isi [.var 0, .gl (.ty "str")], .pr .eq [.var 0, .var 1]])]
def b__law_call : List St := [.ite (.pr .eq [.pr .len [.var 1], .cst (.int 1)]) [.ret (.callv 0 [.pr .idx [.var 1, .cst (.int 0)]])] [], .ite (.pr .eq [.pr .len [.var 1], .cst (.int 2)]) [.ret (.callv 0 [.pr .idx [.var 1, .cst (.int 0)], .pr .idx [.var 1, .cst (.int 1)]])] [], .ite (.pr .eq [.pr .len [.var 1], .cst (.int 3)]) [.ret (.callv 0 [.pr .idx [.var 1, .cst (.int 0)], .pr .idx [.var 1, .cst (.int 1)], .pr .idx [.var 1, .cst (.int 2)]])] [], .ite (.pr .eq [.pr .len [.var 1], .cst (.int 4)]) [.ret (.callv 0 [.pr .idx [.var 1, .cst (.int 0)], .pr .idx [.var 1, .cst (.int 1)], .pr .idx [.var 1, .cst (.int 2)], .pr .idx [.var 1, .cst (.int 3)]])] [], .ite (.pr .eq [.pr .len [.var 1], .cst (.int 5)]) [.ret (.callv 0 [.pr .idx [.var 1, .cst (.int 0)], .pr .idx [.var 1, .cst (.int 1)], .pr .idx [.var 1, .cst (.int 2)], .pr .idx [.var 1, .cst (.int 3)], .pr .idx [.var 1, .cst (.int 4)]])] [], .ret (.callv 0 [.pr .idx [.var 1, .cst (.int 0)], .pr .idx [.var 1, .cst (.int 1)], .pr .idx [.var 1, .cst (.int 2)], .pr .idx [.var 1, .cst (.int 3)], .pr .idx [.var 1, .cst (.int 4)], .pr .idx [.var 1, .cst (.int 5)]])]
def b__law_mark : List St := [.asg (.name 2) (.cst .non), .tryM (.call 24 [.var 0, .var 1]) 0 2 3, .ret (.var 2)]
def b__law_raised : List St := [.asg (.name 4) (.call 25 [.var 0, .var 1]), .ret (.and [.pr .isn [.var 4, .cst .non], .call 35 [.var 4, .var 2], .call 23 [.attr (.var 4), .var 3]])]
def b__law_refused : List St := [.asg (.name 5) (.pr .add [.pr .add [.pr (.slc false true) [.var 1, .var 2], .lst [.var 4]], .lc (.cst .non) (.name 6) (.pr (.slc true false) [.var 1, .pr .add [.var 2, .cst (.int 1)]]) [] [6]]), .ite (.not (.call 26 [.var 0, .var 5, .var 3, .var 4])) [.ret (.cst (.bl false))] [], .ret (.call 26 [.var 0, .pr .add [.pr .add [.pr (.slc false true) [.var 1, .var 2], .lst [.var 4]], .pr (.slc true false) [.var 1, .pr .add [.var 2, .cst (.int 1)]]], .var 3, .var 4])]
def b__law_all_refused : List St := [.for_ (.tup [.name 4, .name 5]) (.var 0) [.ite (.pr .ne [.lc (.var 6) (.name 6) (.var 3) [.not (.call 27 [.var 4, .var 5, .var 1, .var 2, .var 6])] [6], .lst []]) [.ret (.cst (.bl false))] []], .ret (.cst (.bl true))]
def b__law_web : List St := [.asg (.name 3) (.pr .add [.cst (.int 1), .call 20 [.var 0, .var 1]]), .ite (.pr .eq [.var 3, .cst (.int 1)]) [.ret (.tup [.cst (.int 1), .lst []])] [], .asg (.name 4) (.lst []), .for_ (.name 5) (.rng [.call 20 [.var 0, .pr .add [.var 2, .cst (.int 1)]]]) [.asg (.name 6) (.call 20 [.var 0, .var 3]), .asg (.name 7) (.pr .mod [.pr .add [.pr .add [.var 6, .cst (.int 1)], .call 20 [.var 0, .pr .sub [.var 3, .cst (.int 1)]]], .var 3]), .exp (.app 4 (.tup [.pr .min2 [.var 6, .var 7], .pr .max2 [.var 6, .var 7]]))], .ret (.tup [.var 3, .pr .sorted1 [.var 4]])]
def b__law_whole_web : List St := [.asg (.name 3) (.pr .add [.cst (.int 2), .call 20 [.var 0, .pr .sub [.var 1, .cst (.int 1)]]]), .asg (.name 4) (.lc (.tup [.call 20 [.var 0, .var 7], .var 7]) (.name 7) (.rng [.cst (.int 1), .var 3]) [] [7]), .whl (.and [.pr .lt [.pr .len [.var 4], .var 2], .pr .gt [.call 20 [.var 0, .cst (.int 4)], .cst (.int 0)]]) [.asg (.name 5) (.call 20 [.var 0, .var 3]), .asg (.name 6) (.pr .mod [.pr .add [.pr .add [.var 5, .cst (.int 1)], .call 20 [.var 0, .pr .sub [.var 3, .cst (.int 1)]]], .var 3]), .exp (.app 4 (.tup [.pr .min2 [.var 5, .var 6], .pr .max2 [.var 5, .var 6]]))], .ret (.tup [.var 3, .pr .sorted1 [.var 4]])]
def b__law_some_web : List St := [.ret (.ite (.pr .eq [.call 20 [.var 0, .cst (.int 3)], .cst (.int 0)]) (.call 29 [.var 0, .var 1, .var 2]) (.call 30 [.var 0, .pr .max2 [.cst (.int 2), .var 1], .var 2]))]
def b__law_pieces : List St := [.asg (.name 2) (.lc (.lst [.var 6]) (.name 6) (.rng [.var 0]) [] [6]), .for_ (.tup [.name 3, .name 4]) (.var 1) [.asg (.name 5) (.lc (.var 7) (.name 7) (.var 2) [.or [.pr .in_ [.var 3, .var 7], .pr .in_ [.var 4, .var 7]]] [7]), .asg (.name 2) (.pr .add [.lc (.var 7) (.name 7) (.var 2) [.pr .nin [.var 7, .var 5]] [7], .lst [.pr .sorted1 [.pr .sum2 [.var 5, .lst []]]]])], .ret (.pr .sorted1 [.var 2])]
def b__law_wrong_webs : List St := [.asg (.name 0) (.lst [.cst .non, .cst (.int 7), .tup [], .lst [], .tup [.cst (.int 2)], .lst [.cst (.int 2), .lst [.tup [.cst (.int 0), .cst (.int 1)]]], .tup [.cst (.int 2), .lst [.tup [.cst (.int 0), .cst (.int 1)]], .cst (.int 0)], .tup [.cst (.int 0), .lst []], .tup [.cst (.int 11), .lst []], .tup [.cst (.bl true), .lst []], .tup [.cst .non, .lst []], .tup [.cst (.str "2"), .lst []], .tup [.cst (.int 2), .cst .non], .tup [.cst (.int 2), .tup [.tup [.cst (.int 0), .cst (.int 1)]]], .tup [.cst (.int 2), .lst [.tup [.cst (.int 1), .cst (.int 0)]]]]), .asg (.name 0) (.pr .add [.var 0, .lst [.tup [.cst (.int 2), .lst [.tup [.cst (.int 0), .cst (.int 0)]]], .tup [.cst (.int 2), .lst [.tup [.cst (.int 0), .cst (.int 2)]]], .tup [.cst (.int 2), .lst [.tup [.pr .neg [.cst (.int 1)], .cst (.int 1)]]], .tup [.cst (.int 2), .lst [.tup [.cst (.int 0), .cst (.bl true)]]], .tup [.cst (.int 2), .lst [.tup [.cst (.int 0), .cst (.int 1), .cst (.int 1)]]], .tup [.cst (.int 2), .lst [.lst [.cst (.int 0), .cst (.int 1)]]], .tup [.cst (.int 2), .lst [.tup [.cst (.int 0)]]], .tup [.cst (.int 2), .lst [.cst .non]], .tup [.cst (.int 2), .lst [.tup [.cst (.str "0"), .cst (.int 1)]]]]]), .ret (.pr .add [.var 0, .lst [.tup [.cst (.int 3), .lst [.tup [.cst (.int 1), .cst (.int 2)], .tup [.cst (.int 0), .cst (.int 1)]]], .tup [.cst (.int 2), .pr .mul [.lst [.tup [.cst (.int 0), .cst (.int 1)]], .cst (.int 25)]], .tup [.cst (.int 3), .lst [.tup [.cst (.int 0), .cst (.int 1)], .tup [.cst (.int 0), .cst (.int 2)], .tup [.cst (.int 0), .cst (.int 1)]]]]])]
def b__law_wrong_places : List St := [.ret (.lst [.cst .non, .var 0, .pr .neg [.cst (.int 1)], .cst (.bl true), .cst (.str "0"), .lst [.cst (.int 0)], .tup [.cst (.int 0)]])]
def b__law_is_kind : List St := [.ite (.pr .eq [.var 1, .cst (.str "InvalidPlace")]) [.ret (.pr .isi [.var 0, .gl (.cls 1)])] [], .ite (.pr .eq [.var 1, .cst (.str "InvalidWeb")]) [.ret (.pr .isi [.var 0, .gl (.cls 0)])] [], .ite (.pr .eq [.var 1, .cst (.str "Parted")]) [.ret (.pr .isi [.var 0, .gl (.cls 2)])] [], .ret (.cst (.bl false))]
def b__law_far : List St := [.par [2, 3] [.pr .mul [.lst [.cst .non], .pr .idx [.var 0, .cst (.int 0)]], .lst [.var 1]], .for_ (.name 4) (.rng [.pr .idx [.var 0, .cst (.int 0)]]) [.for_ (.name 5) (.var 3) [.setix 2 (.var 5) (.ite (.pr .is_ [.pr .idx [.var 2, .var 5], .cst .non]) (.var 4) (.pr .idx [.var 2, .var 5]))], .asg (.name 3) (.lc (.var 5) (.name 5) (.rng [.pr .idx [.var 0, .cst (.int 0)]]) [.and [.pr .is_ [.pr .idx [.var 2, .var 5], .cst .non], .pr .ne [.lc (.cst (.int 1)) (.name 6) (.pr .idx [.var 0, .cst (.int 1)]) [.and [.pr .in_ [.var 5, .var 6], .pr .in_ [.pr .sub [.pr .sum1 [.var 6], .var 5], .var 3]]] [6], .lst []]]] [5])], .ret (.var 2)]
def b__law_way : List St := [.par [3, 4] [.call 36 [.var 0, .var 2], .lst [.var 1]], .ite (.pr .is_ [.pr .idx [.var 3, .var 1], .cst .non]) [.ret (.cst .non)] [], .whl (.pr .ne [.pr .idx [.var 4, .pr .neg [.cst (.int 1)]], .var 2]) [.asg (.name 5) (.lc (.pr .sub [.pr .sum1 [.var 6], .pr .idx [.var 4, .pr .neg [.cst (.int 1)]]]) (.name 6) (.pr .idx [.var 0, .cst (.int 1)]) [.pr .in_ [.pr .idx [.var 4, .pr .neg [.cst (.int 1)]], .var 6]] [6]), .exp (.app 4 (.pr .min1 [.lc (.var 7) (.name 7) (.var 5) [.pr .lt [.pr .idx [.var 3, .var 7], .pr .idx [.var 3, .pr .idx [.var 4, .pr .neg [.cst (.int 1)]]]]] [7]]))], .ret (.var 4)]
def b__law_case_right : List St := [.asg (.name 2) (.call 22 [.var 0, .var 1]), .asg (.name 3) (.call 31 [.var 2, .pr .idx [.lst [.cst (.int 10), .cst (.int 6), .cst (.int 4)], .var 1], .pr .idx [.lst [.cst (.int 24), .cst (.int 9), .cst (.int 5)], .var 1]]), .par [4, 5, 6] [.pr .repr1 [.var 3], .call 32 [.pr .idx [.var 3, .cst (.int 0)], .pr .idx [.var 3, .cst (.int 1)]], .pr .idx [.var 3, .cst (.int 0)]], .asg (.name 7) (.lc (.call 36 [.var 3, .var 20]) (.name 20) (.rng [.var 6]) [] [20]), .for_ (.name 8) (.rng [.cst (.int 4)]) [.par [9, 10] [.call 20 [.var 2, .var 6], .call 20 [.var 2, .var 6]], .asg (.name 11) (.call 37 [.var 3, .var 9, .var 10]), .asg (.name 12) (.lst [.call 11 [.var 3, .var 9], .call 12 [.var 3, .var 9, .var 10]]), .ite (.bor [] (.not (.call 23 [.lst [.var 12, .lst [.callk 11 [.var 9, .var 3] [1, 0], .callk 12 [.var 10, .var 9, .var 3] [2, 1, 0]]], .pr .mul [.lst [.lst [.pr .idx [.var 7, .var 9], .var 11]], .cst (.int 2)]]))) [.ret (.cst (.bl false))] [], .exp (.appAt 12 [.cst (.int 0)] (.cst (.int 0))), .ite (.not (.call 23 [.call 11 [.var 3, .var 9], .pr .idx [.var 7, .var 9]])) [.ret (.cst (.bl false))] [], .ite (.pr .isn [.var 11, .cst .non]) [.exp (.appAt 12 [.cst (.int 1)] (.cst (.int 0))), .ite (.or [.not (.call 23 [.call 12 [.var 3, .var 9, .var 10], .var 11]), .pr .ne [.pr .len [.var 11], .pr .add [.pr .idx [.pr .idx [.var 7, .var 9], .var 10], .cst (.int 1)]]]) [.ret (.cst (.bl false))] []] []], .asg (.name 13) (.lst [.tup [.gl (.fn 13), .lst [.var 3]], .tup [.gl (.fn 15), .lst [.var 3]], .tup [.gl (.fn 14), .lst [.var 3]], .tup [.gl (.fn 18), .lst [.var 3]], .tup [.gl (.fn 16), .lst [.var 3]], .tup [.gl (.fn 17), .lst [.var 3]]]), .ite (.pr .gt [.pr .len [.var 5], .cst (.int 1)]) [.ite (.pr .ne [.lc (.var 21) (.tup [.name 21, .name 22]) (.var 13) [.not (.call 26 [.var 21, .var 22, .cst (.str "Parted"), .var 5])] [21, 22], .lst []]) [.ret (.cst (.bl false))] []] [.par [14, 15] [.lc (.pr .max1 [.var 23]) (.name 23) (.var 7) [] [23], .lc (.pr .sum1 [.var 23]) (.name 23) (.var 7) [] [23]], .asg (.name 16) (.pr .idx [.lc (.tup [.var 24, .var 25]) (.tup [.name 24, .name 25]) (.pr .sum2 [.lc (.lc (.tup [.var 24, .var 25]) (.name 25) (.rng [.var 24, .var 6]) [] [25]) (.name 24) (.rng [.var 6]) [] [24], .lst []]) [.pr .eq [.pr .idx [.pr .idx [.var 7, .var 24], .var 25], .pr .max1 [.var 14]]] [24, 25], .cst (.int 0)]), .asg (.name 17) (.lst [.var 14, .pr .max1 [.var 14], .lc (.var 20) (.name 20) (.rng [.var 6]) [.pr .eq [.pr .idx [.var 14, .var 20], .pr .min1 [.var 14]]] [20], .var 16, .var 15, .lc (.var 20) (.name 20) (.rng [.var 6]) [.pr .eq [.pr .idx [.var 15, .var 20], .pr .min1 [.var 15]]] [20]]), .asg (.name 12) (.lst [.call 13 [.var 3], .call 15 [.var 3], .call 14 [.var 3], .call 18 [.var 3], .call 16 [.var 3], .call 17 [.var 3]]), .ite (.bor [] (.or [.not (.call 23 [.var 12, .var 17]), .pr .gt [.pr .max1 [.var 14], .pr .mul [.cst (.int 2), .pr .min1 [.var 14]]]])) [.ret (.cst (.bl false))] [], .for_ (.name 18) (.tup [.cst (.int 0), .cst (.int 2), .cst (.int 4), .cst (.int 5)]) [.exp (.appAt 12 [.var 18] (.cst (.int 0)))], .ite (.not (.call 23 [.lst [.callk 13 [.var 3] [0], .callk 15 [.var 3] [0], .callk 14 [.var 3] [0], .callk 18 [.var 3] [0], .callk 16 [.var 3] [0], .callk 17 [.var 3] [0]], .var 17])) [.ret (.cst (.bl false))] []], .asg (.name 19) (.lst [.tup [.gl (.fn 11), .lst [.var 3, .cst (.int 0)]], .tup [.gl (.fn 12), .lst [.var 3, .cst (.int 0), .cst (.int 0)]]]), .ite (.or [.not (.call 28 [.pr .add [.var 19, .var 13], .cst (.int 0), .cst (.str "InvalidWeb"), .call 33 []]), .not (.call 28 [.var 19, .cst (.int 1), .cst (.str "InvalidPlace"), .call 34 [.var 6]])]) [.ret (.cst (.bl false))] [], .ret (.and [.call 28 [.pr (.slc true false) [.var 19, .cst (.int 1)], .cst (.int 2), .cst (.str "InvalidPlace"), .call 34 [.var 6]], .pr .eq [.pr .repr1 [.var 3], .var 4]])]
def b_law : List St := [.for_ (.name 1) (.rng [.cst (.int 3)]) [.ite (.not (.call 38 [.var 0, .var 1])) [.ret (.cst (.bl false))] []], .ret (.call 23 [.lst [.call 18 [.tup [.cst (.int 1), .lst []]], .call 13 [.tup [.cst (.int 1), .lst []]], .call 11 [.tup [.cst (.int 2), .lst []], .cst (.int 1)], .call 12 [.tup [.cst (.int 2), .lst []], .cst (.int 0), .cst (.int 1)], .call 12 [.tup [.cst (.int 1), .lst []], .cst (.int 0), .cst (.int 0)]], .lst [.tup [.cst (.int 0), .cst (.int 0)], .lst [.cst (.int 0)], .lst [.cst .non, .cst (.int 0)], .cst .non, .lst [.cst (.int 0)]]])]
def d_is_whole : FnDef := ⟨1, [], b_is_whole⟩
def d_is_count : FnDef := ⟨1, [], b_is_count⟩
def d_is_below : FnDef := ⟨2, [], b_is_below⟩
def d_is_pair : FnDef := ⟨2, [], b_is_pair⟩
def d_is_web : FnDef := ⟨1, [], b_is_web⟩
def d_check_web : FnDef := ⟨1, [], b_check_web⟩
def d_check_place : FnDef := ⟨2, [], b_check_place⟩
def d_labels_of : FnDef := ⟨2, [], b_labels_of⟩
def d_pieces_of : FnDef := ⟨2, [], b_pieces_of⟩
def d_check_all_joined : FnDef := ⟨1, [], b_check_all_joined⟩
def d_far_from : FnDef := ⟨2, [], b_far_from⟩
def d_distances : FnDef := ⟨2, [], b_distances⟩
def d_shortest_way : FnDef := ⟨3, [], b_shortest_way⟩
def d_rims : FnDef := ⟨1, [], b_rims⟩
def d_centre : FnDef := ⟨1, [], b_centre⟩
def d_width : FnDef := ⟨1, [], b_width⟩
def d_sums : FnDef := ⟨1, [], b_sums⟩
def d_nearest_to_all : FnDef := ⟨1, [], b_nearest_to_all⟩
def d_far_ends : FnDef := ⟨1, [], b_far_ends⟩
def d__law_hash : FnDef := ⟨2, [], b__law_hash⟩
def d__law_random : FnDef := ⟨2, [0], b__law_random⟩
def d__law_cell : FnDef := ⟨2, [], b__law_cell⟩
def d__law_generator : FnDef := ⟨2, [], b__law_generator⟩
def d__law_same : FnDef := ⟨2, [], b__law_same⟩
def d__law_call : FnDef := ⟨2, [], b__law_call⟩
def d__law_mark : FnDef := ⟨2, [], b__law_mark⟩
def d__law_raised : FnDef := ⟨4, [], b__law_raised⟩
def d__law_refused : FnDef := ⟨5, [], b__law_refused⟩
def d__law_all_refused : FnDef := ⟨4, [], b__law_all_refused⟩
def d__law_web : FnDef := ⟨3, [0], b__law_web⟩
def d__law_whole_web : FnDef := ⟨3, [0], b__law_whole_web⟩
def d__law_some_web : FnDef := ⟨3, [0], b__law_some_web⟩
def d__law_pieces : FnDef := ⟨2, [], b__law_pieces⟩
def d__law_wrong_webs : FnDef := ⟨0, [], b__law_wrong_webs⟩
def d__law_wrong_places : FnDef := ⟨1, [], b__law_wrong_places⟩
def d__law_is_kind : FnDef := ⟨2, [], b__law_is_kind⟩
def d__law_far : FnDef := ⟨2, [], b__law_far⟩
def d__law_way : FnDef := ⟨3, [], b__law_way⟩
def d__law_case_right : FnDef := ⟨2, [], b__law_case_right⟩
def d_law : FnDef := ⟨1, [], b_law⟩
def tbl : Nat → Option FnDef
  | 0 => some d_is_whole
  | 1 => some d_is_count
  | 2 => some d_is_below
  | 3 => some d_is_pair
  | 4 => some d_is_web
  | 5 => some d_check_web
  | 6 => some d_check_place
  | 7 => some d_labels_of
  | 8 => some d_pieces_of
  | 9 => some d_check_all_joined
  | 10 => some d_far_from
  | 11 => some d_distances
  | 12 => some d_shortest_way
  | 13 => some d_rims
  | 14 => some d_centre
  | 15 => some d_width
  | 16 => some d_sums
  | 17 => some d_nearest_to_all
  | 18 => some d_far_ends
  | 19 => some d__law_hash
  | 20 => some d__law_random
  | 21 => some d__law_cell
  | 22 => some d__law_generator
  | 23 => some d__law_same
  | 24 => some d__law_call
  | 25 => some d__law_mark
  | 26 => some d__law_raised
  | 27 => some d__law_refused
  | 28 => some d__law_all_refused
  | 29 => some d__law_web
  | 30 => some d__law_whole_web
  | 31 => some d__law_some_web
  | 32 => some d__law_pieces
  | 33 => some d__law_wrong_webs
  | 34 => some d__law_wrong_places
  | 35 => some d__law_is_kind
  | 36 => some d__law_far
  | 37 => some d__law_way
  | 38 => some d__law_case_right
  | 39 => some d_law
  | _ => none
def fnN : Nat → PySem.Str
  | 0 => "is_whole"
  | 1 => "is_count"
  | 2 => "is_below"
  | 3 => "is_pair"
  | 4 => "is_web"
  | 5 => "check_web"
  | 6 => "check_place"
  | 7 => "labels_of"
  | 8 => "pieces_of"
  | 9 => "check_all_joined"
  | 10 => "far_from"
  | 11 => "distances"
  | 12 => "shortest_way"
  | 13 => "rims"
  | 14 => "centre"
  | 15 => "width"
  | 16 => "sums"
  | 17 => "nearest_to_all"
  | 18 => "far_ends"
  | 19 => "_law_hash"
  | 20 => "_law_random"
  | 21 => "_law_cell"
  | 22 => "_law_generator"
  | 23 => "_law_same"
  | 24 => "_law_call"
  | 25 => "_law_mark"
  | 26 => "_law_raised"
  | 27 => "_law_refused"
  | 28 => "_law_all_refused"
  | 29 => "_law_web"
  | 30 => "_law_whole_web"
  | 31 => "_law_some_web"
  | 32 => "_law_pieces"
  | 33 => "_law_wrong_webs"
  | 34 => "_law_wrong_places"
  | 35 => "_law_is_kind"
  | 36 => "_law_far"
  | 37 => "_law_way"
  | 38 => "_law_case_right"
  | 39 => "law"
  | _ => "0"
def clsN : Nat → PySem.Str
  | 0 => "InvalidWeb"
  | 1 => "InvalidPlace"
  | 2 => "Parted"
  | _ => "0"
def numN : Nat → PySem.Str
  | 0 => "MOST_PLACES"
  | 1 => "MOST_TIES"
  | _ => "0"
def numV : Nat → Option Int
  | 0 => some 10
  | 1 => some 24
  | _ => none
def pnN : Nat → List PySem.Str
  | 0 => ["value"]
  | 1 => ["value"]
  | 2 => ["value", "bound"]
  | 3 => ["many", "value"]
  | 4 => ["value"]
  | 5 => ["web"]
  | 6 => ["web", "place"]
  | 7 => ["many", "ties"]
  | 8 => ["many", "ties"]
  | 9 => ["web"]
  | 10 => ["web", "place"]
  | 11 => ["web", "place"]
  | 12 => ["web", "place", "other_place"]
  | 13 => ["web"]
  | 14 => ["web"]
  | 15 => ["web"]
  | 16 => ["web"]
  | 17 => ["web"]
  | 18 => ["web"]
  | 19 => ["seed", "index"]
  | 20 => ["generator", "bound"]
  | 21 => ["script", "index"]
  | 22 => ["script", "index"]
  | 23 => ["told", "due"]
  | 24 => ["deed", "args"]
  | 25 => ["deed", "args"]
  | 26 => ["deed", "args", "word", "value"]
  | 27 => ["deed", "args", "at", "word", "wrong"]
  | 28 => ["deeds", "at", "word", "wrongs"]
  | 29 => ["generator", "most", "many"]
  | 30 => ["generator", "most", "many"]
  | 31 => ["generator", "most", "many"]
  | 32 => ["many", "ties"]
  | 33 => []
  | 34 => ["size"]
  | 35 => ["mark", "word"]
  | 36 => ["web", "place"]
  | 37 => ["web", "start", "end"]
  | 38 => ["script", "index"]
  | 39 => ["script"]
  | _ => []
def ktN : Nat → List (List PySem.Str × List Nat)
  | 0 => []
  | 1 => []
  | 2 => []
  | 3 => []
  | 4 => []
  | 5 => []
  | 6 => []
  | 7 => []
  | 8 => []
  | 9 => []
  | 10 => []
  | 11 => [(["place", "web"], [1, 0])]
  | 12 => [(["other_place", "place", "web"], [2, 1, 0])]
  | 13 => [(["web"], [0])]
  | 14 => [(["web"], [0])]
  | 15 => [(["web"], [0])]
  | 16 => [(["web"], [0])]
  | 17 => [(["web"], [0])]
  | 18 => [(["web"], [0])]
  | 19 => []
  | 20 => []
  | 21 => []
  | 22 => []
  | 23 => []
  | 24 => []
  | 25 => []
  | 26 => []
  | 27 => []
  | 28 => []
  | 29 => []
  | 30 => []
  | 31 => []
  | 32 => []
  | 33 => []
  | 34 => []
  | 35 => []
  | 36 => []
  | 37 => []
  | 38 => []
  | 39 => []
  | _ => []
end K81
end Ev
end
section
set_option linter.all false
set_option maxRecDepth 100000
set_option maxHeartbeats 8000000
/-! The law of distances, over its table. -/
namespace Ev
namespace K81
open PySem Gr
def kinds : KindsT tbl := ⟨0, rfl, 1, rfl, 2, rfl, 3, rfl, 4, 0, 1, rfl, 5, 0, rfl⟩
def place : PlaceT tbl kinds := ⟨6, 1, rfl⟩
def pcsT : PcsT tbl := ⟨7, rfl, 8, rfl⟩
def cent : CentT tbl kinds place pcsT := ⟨9, 2, rfl, 10, rfl, 11, rfl, 12, rfl, 13, rfl, 14, rfl, 15, rfl, 16, rfl, 17, rfl, 18, rfl⟩
def rndT : RndT tbl := ⟨19, rfl, 20, rfl⟩
def ref : RefT tbl := ⟨24, rfl, 25, rfl, 23, rfl, 35, rfl, 26, rfl, 27, rfl, 28, rfl⟩
@[simp] theorem sg0 : Tab.sg tbl 0 = [] := id rfl
@[simp] theorem sg1 : Tab.sg tbl 1 = [] := id rfl
@[simp] theorem sg2 : Tab.sg tbl 2 = [] := id rfl
@[simp] theorem sg3 : Tab.sg tbl 3 = [] := id rfl
@[simp] theorem sg4 : Tab.sg tbl 4 = [] := id rfl
@[simp] theorem sg5 : Tab.sg tbl 5 = [] := id rfl
@[simp] theorem sg6 : Tab.sg tbl 6 = [] := id rfl
@[simp] theorem sg7 : Tab.sg tbl 7 = [] := id rfl
@[simp] theorem sg8 : Tab.sg tbl 8 = [] := id rfl
@[simp] theorem sg9 : Tab.sg tbl 9 = [] := id rfl
@[simp] theorem sg10 : Tab.sg tbl 10 = [] := id rfl
@[simp] theorem sg11 : Tab.sg tbl 11 = [] := id rfl
@[simp] theorem sg12 : Tab.sg tbl 12 = [] := id rfl
@[simp] theorem sg13 : Tab.sg tbl 13 = [] := id rfl
@[simp] theorem sg14 : Tab.sg tbl 14 = [] := id rfl
@[simp] theorem sg15 : Tab.sg tbl 15 = [] := id rfl
@[simp] theorem sg16 : Tab.sg tbl 16 = [] := id rfl
@[simp] theorem sg17 : Tab.sg tbl 17 = [] := id rfl
@[simp] theorem sg18 : Tab.sg tbl 18 = [] := id rfl
@[simp] theorem sg19 : Tab.sg tbl 19 = [] := id rfl
@[simp] theorem sg20 : Tab.sg tbl 20 = [0] := id rfl
@[simp] theorem sg21 : Tab.sg tbl 21 = [] := id rfl
@[simp] theorem sg22 : Tab.sg tbl 22 = [] := id rfl
@[simp] theorem sg23 : Tab.sg tbl 23 = [] := id rfl
@[simp] theorem sg24 : Tab.sg tbl 24 = [] := id rfl
@[simp] theorem sg25 : Tab.sg tbl 25 = [] := id rfl
@[simp] theorem sg26 : Tab.sg tbl 26 = [] := id rfl
@[simp] theorem sg27 : Tab.sg tbl 27 = [] := id rfl
@[simp] theorem sg28 : Tab.sg tbl 28 = [] := id rfl
@[simp] theorem sg29 : Tab.sg tbl 29 = [0] := id rfl
@[simp] theorem sg30 : Tab.sg tbl 30 = [0] := id rfl
@[simp] theorem sg31 : Tab.sg tbl 31 = [0] := id rfl
@[simp] theorem sg32 : Tab.sg tbl 32 = [] := id rfl
@[simp] theorem sg33 : Tab.sg tbl 33 = [] := id rfl
@[simp] theorem sg34 : Tab.sg tbl 34 = [] := id rfl
@[simp] theorem sg35 : Tab.sg tbl 35 = [] := id rfl
@[simp] theorem sg36 : Tab.sg tbl 36 = [] := id rfl
@[simp] theorem sg37 : Tab.sg tbl 37 = [] := id rfl
@[simp] theorem sg38 : Tab.sg tbl 38 = [] := id rfl
@[simp] theorem sg39 : Tab.sg tbl 39 = [] := id rfl
/-- what stays while turns are asked -/
structure S1 (m : Nat) (ts : Ties) (s : Str) (k : Nat) (ε : Env) : Prop where
  e2 : ∃ o, ε 2 = some o ∧ Gen k o
  e3 : ε 3 = some (.im (webD m ts))
  e4 : ε 4 = some (.im (.str s))
  e5 : ε 5 = some (.ls ((Gr.pcs m ts).map lD))
  e6 : ε 6 = some (.im (.int m))
  e7 : ε 7 = some (.lst ((List.range m).map fun p => .ls (tabO m (dst ts p)))) ∨ ε 7 = some (.ls ((List.range m).map fun p => .lst (tabO m (dst ts p))))
  q : ∀ j ∈ [20, 21, 22, 23, 24, 25], qt (ε j) = true
theorem ers_tabs (m ts) : O.ers ((List.range m).map fun p => O.ls (tabO m (dst ts p))) = (List.range m).map fun p => .lst (tabO m (dst ts p)) := by
  induction List.range m with
  | nil => rfl
  | cons x xs ih => simp [ih]
theorem sm_oD (k o) : Sm k (oD o) := by cases o <;> constructor
theorem sm_tabO {k m f} (hm : m ≤ 10) : Sm (k + 1) (.lst (tabO m f)) := .lst (by simp; omega) fun x hx => by
  obtain ⟨v, _, rfl⟩ := List.mem_map.mp hx
  exact sm_oD _ _
theorem sm_dns {k} {xs : List Nat} (h : xs.length ≤ 100000) : Sm (k + 1) (.lst (xs.map dn)) := .lst (by simpa using h) fun x hx => by
  obtain ⟨v, _, rfl⟩ := List.mem_map.mp hx
  exact .int _ _
theorem wayO_cases {m ts a b} (hin : In m ts) (hb : b < m) : (dst ts b a = none ∧ wayO ts b a = .im .non) ∨ ∃ (k : Nat) (xs : List Nat), dst ts b a = some k ∧ k < m ∧ xs.length = k + 1 ∧ wayO ts b a = .ls (xs.map dn) := by
  unfold wayO
  cases h : dst ts b a with
  | none => left; exact ⟨rfl, rfl⟩
  | some k => right; exact ⟨k, way ts (dst ts b) k a, rfl, dst_lt hin hb h, way_len _ _ _ _, rfl⟩
def turnB : List St := [.par [9, 10] [.call 20 [.var 2, .var 6], .call 20 [.var 2, .var 6]], .asg (.name 11) (.call 37 [.var 3, .var 9, .var 10]), .asg (.name 12) (.lst [.call 11 [.var 3, .var 9], .call 12 [.var 3, .var 9, .var 10]]), .ite (.bor [] (.not (.call 23 [.lst [.var 12, .lst [.callk 11 [.var 9, .var 3] [1, 0], .callk 12 [.var 10, .var 9, .var 3] [2, 1, 0]]], .pr .mul [.lst [.lst [.pr .idx [.var 7, .var 9], .var 11]], .cst (.int 2)]]))) [.ret (.cst (.bl false))] [], .exp (.appAt 12 [.cst (.int 0)] (.cst (.int 0))), .ite (.not (.call 23 [.call 11 [.var 3, .var 9], .pr .idx [.var 7, .var 9]])) [.ret (.cst (.bl false))] [], .ite (.pr .isn [.var 11, .cst .non]) [.exp (.appAt 12 [.cst (.int 1)] (.cst (.int 0))), .ite (.or [.not (.call 23 [.call 12 [.var 3, .var 9, .var 10], .var 11]), .pr .ne [.pr .len [.var 11], .pr .add [.pr .idx [.pr .idx [.var 7, .var 9], .var 10], .cst (.int 1)]]]) [.ret (.cst (.bl false))] []] []]

theorem turn (n : Nat) {m ts s k} (hW : Web m ts) (hk : k ≤ 1000000) (ε : Env) (h : S1 m ts s k ε) (x : D) : ∃ ε', forStep (callN tbl (n + 13)) (Tab.sg tbl) [] (.name 8) turnB x ε = .ok .next ε' ∧ S1 m ts s (k + 2) ε' := by
  obtain ⟨⟨o, e2, hG⟩, e3, e4, e5, e6, e7, hq⟩ := h
  have hm := hW.m10
  obtain ⟨a, o1, c1, ha, hG1⟩ := rndT.rnd_ok (n + 11) k m o hG (by omega) hW.m1 (by omega)
  obtain ⟨b, o2, c2, hb, hG2⟩ := rndT.rnd_ok (n + 11) (k + 1) m o1 hG1 (by omega) hW.m1 (by omega)
  have c3 : callN tbl (n + 13) 37 [.im (webD m ts), .im (.int a), .im (.int b)] = .ret (wayO ts b a) [] := law_way (g := 37) (h := 36) rfl rfl (n + 11) hW ha hb
  have c4 : callN tbl (n + 13) 11 [.im (webD m ts), .im (.int a)] = .ret (.ls (tabO m (dst ts a))) [] := cent.dist_ok (n + 6) hW ha
  have c5 : callN tbl (n + 13) 12 [.im (webD m ts), .im (.int a), .im (.int b)] = .ret (wayO ts b a) [] := cent.sway_ok (n + 6) hW ha hb
  have c6 : ∀ d, Sm 6 d → callN tbl (n + 13) 23 [.im d, .im d] = .ret (.im (.bl true)) [] := fun d hd => law_same ref.hsame hd (n + 13) (by omega)
  change callN tbl (n + 13) 20 _ = _ at c1 c2
  have p2 : ∀ d, prim .mul [.lst [d], .int 2] = some (.ls [d, d]) := fun d => pr_mul_lst1 d 2 (by omega)
  have pa0 : ∀ (ε : Env) (w : O), ε 12 = some (.lst [.ls (tabO m (dst ts a)), w]) → evE (callN tbl (n + 13)) (Tab.sg tbl) (.appAt 12 [.cst (.int 0)] (.cst (.int 0))) ε = .ok (.im .non) (up ε 12 (.lst [.ls (tabO m (dst ts a) ++ [.int 0]), w])) := fun ε w h =>
    evE_appAt1 h (j := 0) rfl (ds := tabO m (dst ts a)) rfl (by simp; omega) (rdv_cst _)
  have q6 : ∀ d, Sm 3 d → callN tbl (n + 13) 23 [.im (.lst [.lst [.lst (tabO m (dst ts a)), d], .lst [.lst (tabO m (dst ts a)), d]]), .im (.lst [.lst [.lst (tabO m (dst ts a)), d], .lst [.lst (tabO m (dst ts a)), d]])] = .ret (.im (.bl true)) [] := fun d hd => c6 _ (by
    have h1 : Sm 3 (.lst (tabO m (dst ts a))) := sm_tabO hm
    have h2 : Sm 4 (.lst [.lst (tabO m (dst ts a)), d]) := .lst (by simp) (by simp [h1, hd])
    exact (Sm.lst (k := 4) (by simp) (by simp [h2])).mono (by omega))
  have q7 := c6 (.lst (tabO m (dst ts a))) ((sm_tabO (k := 0) hm).mono (by omega))
  rcases wayO_cases (a := a) (b := b) hW.In hb with ⟨hd, hw⟩ | ⟨j, xs, hd, hj, hxs, hw⟩
  · rw [hw] at c3 c5
    have q8 := q6 .non (.non _)
    rcases e7 with e7 | e7 <;>
    · simp [turnB, e2, e6, c1, c2, e3, c3, c4, c5, e7, ers_tabs, ha, p2, q8, pa0, q7]
      exact ⟨⟨o2, by simp, hG2⟩, by simp [e3], by simp [e4], by simp [e5], by simp [e6], by simp [e7, ers_tabs], by simpa using hq⟩
  · rw [hw] at c3 c5
    have hsx : Sm 1 (.lst (xs.map dn)) := sm_dns (by omega)
    have q8 := q6 (.lst (xs.map dn)) (hsx.mono (by omega))
    have q9 := c6 (.lst (xs.map dn)) (hsx.mono (by omega))
    have pa1 : ∀ (ε : Env) (w : O), ε 12 = some (.lst [w, .ls (xs.map dn)]) → evE (callN tbl (n + 13)) (Tab.sg tbl) (.appAt 12 [.cst (.int 1)] (.cst (.int 0))) ε = .ok (.im .non) (up ε 12 (.lst [w, .ls (xs.map dn ++ [.int 0])])) := fun ε w h =>
      evE_appAt1 h (j := 1) rfl (ds := xs.map dn) rfl (by simp; omega) (rdv_cst _)
    have hda : dst ts a b = some j := by rw [dst_symm]; exact hd
    rcases e7 with e7 | e7 <;>
    · simp [turnB, e2, e6, c1, c2, e3, c3, c4, c5, e7, ers_tabs, ha, hb, p2, q8, pa0, q7, q9, pa1, hda, hxs, tabO_get]
      exact ⟨⟨o2, by simp, hG2⟩, by simp [e3], by simp [e4], by simp [e5], by simp [e6], by simp [e7, ers_tabs], by simpa using hq⟩
end K81
end Ev
end
section
set_option linter.all false
set_option maxRecDepth 100000
set_option maxHeartbeats 8000000
/-! What is asked of whole webs and parted ones. -/
namespace Ev
namespace K81
open PySem Gr
def deeds (m : Nat) (ts : Ties) : List (Nat × List D) := [(13, [webD m ts]), (15, [webD m ts]), (14, [webD m ts]), (18, [webD m ts]), (16, [webD m ts]), (17, [webD m ts])]
def deedD (p : Nat × List D) : D := .tup [.fn p.1, .lst p.2]
structure S2 (m : Nat) (ts : Ties) (s : Str) (ε : Env) : Prop where
  e3 : ε 3 = some (.im (webD m ts))
  e4 : ε 4 = some (.im (.str s))
  e6 : ε 6 = some (.im (.int m))
  e13 : ε 13 = some (.im (.lst ((deeds m ts).map deedD))) ∨ ε 13 = some (.lst ((deeds m ts).map fun p => .tup [.im (.fn p.1), .ls p.2]))
theorem ers_deeds (m ts) : O.ers ((deeds m ts).map fun p => O.tup [.im (.fn p.1), .ls p.2]) = (deeds m ts).map deedD := by simp [deeds, deedD]
theorem pcs_len {m ts} (hW : Web m ts) : (Gr.pcs m ts).length ≤ m := by
  unfold Gr.pcs
  have := List.length_filter_le (fun r => @decide (∀ v, conn ts r v → r ≤ v) (Classical.propDecidable _)) (List.range m)
  simpa using this
theorem cls_len (m ts v) : (cls m ts v).length ≤ m := by
  unfold cls
  have := List.length_filter_le (fun u => @decide (conn ts v u) (Classical.propDecidable _)) (List.range m)
  simpa using this
theorem sm_pcs {m ts} (hW : Web m ts) : Sm 2 (.lst ((Gr.pcs m ts).map lD)) := by
  have hm := hW.m10
  have h1 := pcs_len hW
  refine .lst (by simp; omega) fun x hx => ?_
  obtain ⟨y, hy, rfl⟩ := List.mem_map.mp hx
  obtain ⟨v, _, rfl⟩ := (mem_pcs hW.In).mp hy
  have := cls_len m ts v
  exact sm_dns (by omega)
theorem knows : (ref.Knows 1 "InvalidPlace" 1) ∧ (ref.Knows 0 "InvalidWeb" 1) ∧ (ref.Knows 2 "Parted" 1) := by
  have h1 : (("InvalidPlace" : String) : Str).cps.all (· < 0x110000) = true := by decide +kernel
  have h2 : (("InvalidWeb" : String) : Str).cps.all (· < 0x110000) = true := by decide +kernel
  have h3 : (("Parted" : String) : Str).cps.all (· < 0x110000) = true := by decide +kernel
  have n1 : ¬ (("InvalidWeb" : String) : Str) = ("InvalidPlace" : String) := by decide +kernel
  have n2 : ¬ (("Parted" : String) : Str) = ("InvalidPlace" : String) := by decide +kernel
  have n3 : ¬ (("Parted" : String) : Str) = ("InvalidWeb" : String) := by decide +kernel
  have e : ∀ c k v, prim .isi [.exc c v, .cls k] = some (.im (.bl (c == k))) := fun _ _ _ => rfl
  refine ⟨?_, ?_, ?_⟩ <;>
  · rintro n v hn
    obtain ⟨n, rfl⟩ : ∃ i, n = i + 1 := ⟨n - 1, by omega⟩
    rw [callN_succ (fd := d__law_is_kind) rfl rfl]
    simp [d__law_is_kind, b__law_is_kind, pr_eq_str _ _ h1 h1, pr_eq_str _ _ h2 h1, pr_eq_str _ _ h2 h2, pr_eq_str _ _ h3 h1, pr_eq_str _ _ h3 h2, pr_eq_str _ _ h3 h3, n1, n2, n3, e]
theorem deeds_parted (n : Nat) {m ts} (hW : Web m ts) (hp : 1 < (Gr.pcs m ts).length) : ∀ p ∈ deeds m ts, Tab.sg tbl p.1 = [] ∧ callN tbl (n + 8) p.1 (p.2.map O.im) = .exc 2 (.lst ((Gr.pcs m ts).map lD)) [] := by
  intro p hp'
  have r1 := cent.rims_parted (n + 1) hW hp
  have r2 := cent.sums_parted (n + 1) hW hp
  have r3 := cent.ends_parted (n + 1) hW hp
  have r4 := cent.centre_exc (n + 7) (cent.rims_parted n hW hp)
  have r5 := cent.width_exc (n + 7) (cent.rims_parted n hW hp)
  have r6 := cent.near_exc (n + 7) (cent.sums_parted n hW hp)
  simp only [deeds, List.mem_cons, List.not_mem_nil, or_false] at hp'
  rcases hp' with rfl | rfl | rfl | rfl | rfl | rfl
  · exact ⟨rfl, r1⟩
  · exact ⟨rfl, r5⟩
  · exact ⟨rfl, r4⟩
  · exact ⟨rfl, r3⟩
  · exact ⟨rfl, r2⟩
  · exact ⟨rfl, r6⟩
theorem deeds_web (n : Nat) {k w} (h : Sm k w) (hw : w.isW = false) : ∀ g ∈ [13, 15, 14, 18, 16, 17], callN tbl (n + 8) g [.im w] = .exc 0 w [] := by
  intro g hg
  have r1 := cent.rims_web (n + 1) h hw
  have r2 := cent.sums_web (n + 1) h hw
  have r3 := cent.ends_web (n + 1) h hw
  have r4 := cent.centre_exc (n + 7) (cent.rims_web n h hw)
  have r5 := cent.width_exc (n + 7) (cent.rims_web n h hw)
  have r6 := cent.near_exc (n + 7) (cent.sums_web n h hw)
  simp only [List.mem_cons, List.not_mem_nil, or_false] at hg
  rcases hg with rfl | rfl | rfl | rfl | rfl | rfl
  · exact r1
  · exact r5
  · exact r4
  · exact r3
  · exact r2
  · exact r6
def partedB : List St := [.ite (.pr .ne [.lc (.var 21) (.tup [.name 21, .name 22]) (.var 13) [.not (.call 26 [.var 21, .var 22, .cst (.str "Parted"), .var 5])] [21, 22], .lst []]) [.ret (.cst (.bl false))] []]
-- 0: .asg (.name 2) (.call 22 [.var 0, .var 1])
-- 1: .asg (.name 3) (.call 31 [.var 2, .pr .idx [.lst [.cst (.int
-- 2: .par [4, 5, 6] [.pr .repr1 [.var 3], .call 32 [.pr .idx [.va
-- 3: .asg (.name 7) (.lc (.call 36 [.var 3, .var 20]) (.name 20) 
-- 4: .for_ (.name 8) (.rng [.cst (.int 4)]) [.par [9, 10] [.call 
-- 5: .asg (.name 13) (.lst [.tup [.gl (.fn 13), .lst [.var 3]], .
-- 6: .ite (.pr .gt [.pr .len [.var 5], .cst (.int 1)]) [.ite (.pr
-- 7: .asg (.name 19) (.lst [.tup [.gl (.fn 11), .lst [.var 3, .cs
-- 8: .ite (.or [.not (.call 28 [.pr .add [.var 19, .var 13], .cst
-- 9: .ret (.and [.call 28 [.pr (.slc true false) [.var 19, .cst (
def wholeB : List St := [.par [14, 15] [.lc (.pr .max1 [.var 23]) (.name 23) (.var 7) [] [23], .lc (.pr .sum1 [.var 23]) (.name 23) (.var 7) [] [23]], .asg (.name 16) (.pr .idx [.lc (.tup [.var 24, .var 25]) (.tup [.name 24, .name 25]) (.pr .sum2 [.lc (.lc (.tup [.var 24, .var 25]) (.name 25) (.rng [.var 24, .var 6]) [] [25]) (.name 24) (.rng [.var 6]) [] [24], .lst []]) [.pr .eq [.pr .idx [.pr .idx [.var 7, .var 24], .var 25], .pr .max1 [.var 14]]] [24, 25], .cst (.int 0)]), .asg (.name 17) (.lst [.var 14, .pr .max1 [.var 14], .lc (.var 20) (.name 20) (.rng [.var 6]) [.pr .eq [.pr .idx [.var 14, .var 20], .pr .min1 [.var 14]]] [20], .var 16, .var 15, .lc (.var 20) (.name 20) (.rng [.var 6]) [.pr .eq [.pr .idx [.var 15, .var 20], .pr .min1 [.var 15]]] [20]]), .asg (.name 12) (.lst [.call 13 [.var 3], .call 15 [.var 3], .call 14 [.var 3], .call 18 [.var 3], .call 16 [.var 3], .call 17 [.var 3]]), .ite (.bor [] (.or [.not (.call 23 [.var 12, .var 17]), .pr .gt [.pr .max1 [.var 14], .pr .mul [.cst (.int 2), .pr .min1 [.var 14]]]])) [.ret (.cst (.bl false))] [], .for_ (.name 18) (.tup [.cst (.int 0), .cst (.int 2), .cst (.int 4), .cst (.int 5)]) [.exp (.appAt 12 [.var 18] (.cst (.int 0)))], .ite (.not (.call 23 [.lst [.callk 13 [.var 3] [0], .callk 15 [.var 3] [0], .callk 14 [.var 3] [0], .callk 18 [.var 3] [0], .callk 16 [.var 3] [0], .callk 17 [.var 3] [0]], .var 17])) [.ret (.cst (.bl false))] []]
def tailB : List St := [.asg (.name 19) (.lst [.tup [.gl (.fn 11), .lst [.var 3, .cst (.int 0)]], .tup [.gl (.fn 12), .lst [.var 3, .cst (.int 0), .cst (.int 0)]]]), .ite (.or [.not (.call 28 [.pr .add [.var 19, .var 13], .cst (.int 0), .cst (.str "InvalidWeb"), .call 33 []]), .not (.call 28 [.var 19, .cst (.int 1), .cst (.str "InvalidPlace"), .call 34 [.var 6]])]) [.ret (.cst (.bl false))] [], .ret (.and [.call 28 [.pr (.slc true false) [.var 19, .cst (.int 1)], .cst (.int 2), .cst (.str "InvalidPlace"), .call 34 [.var 6]], .pr .eq [.pr .repr1 [.var 3], .var 4]])]
theorem parted_ok (n : Nat) {m ts s k} (hW : Web m ts) (hp : 1 < (Gr.pcs m ts).length) (ε : Env) (h : S1 m ts s k ε) (e13 : ε 13 = some (.lst ((deeds m ts).map fun p => .tup [.im (.fn p.1), .ls p.2]))) :
    ∃ ε', evSs (callN tbl (n + 13)) (Tab.sg tbl) [] partedB ε = .ok .next ε' ∧ S2 m ts s ε' := by
  have hd := deeds_parted (n + 2) hW hp
  have hr : ∀ p ∈ deeds m ts, callN tbl (n + 13) 26 [.im (.fn p.1), .im (.lst p.2), .im (.str "Parted"), .im (.lst ((Gr.pcs m ts).map lD))] = .ret (.im (.bl true)) [] := by
    intro p hp'
    obtain ⟨h1, h2⟩ := hd p hp'
    have hl : p.2.length = 1 := by
      simp only [deeds, List.mem_cons, List.not_mem_nil, or_false] at hp'
      rcases hp' with rfl | rfl | rfl | rfl | rfl | rfl <;> rfl
    exact ref.raised_ok (n := n + 10) h1 p.2 (by omega) (by omega) h2 knows.2.2 (by omega) (sm_pcs hW) (by omega)
  have hlc : evE (callN tbl (n + 13)) (Tab.sg tbl) (.lc (.var 21) (.tup [.name 21, .name 22]) (.var 13) [.not (.call 26 [.var 21, .var 22, .cst (.str "Parted"), .var 5])] [21, 22]) ε = .ok (.ls []) (rez [21, 22] (up ε 13 (.im (.lst ((deeds m ts).map deedD))))) := by
    have := lc_filter (cl := callN tbl (n + 13)) (sg := Tab.sg tbl) (e := .var 21) (q := .not (.call 26 [.var 21, .var 22, .cst (.str "Parted"), .var 5])) (tg := .tup [.name 21, .name 22]) (it := .var 13) (own := [21, 22]) (ε := ε) (ε1 := up ε 13 (.im (.lst ((deeds m ts).map deedD)))) deedD (deeds m ts) (fun _ => false) (fun _ => .non) (by simp [e13, ers_deeds]) (by simp [deeds]) (by
      rintro ⟨g, args⟩ hx
      have h1 := hr _ hx
      refine ⟨up (up (wipe [21, 22] (up ε 13 (.im (.lst ((deeds m ts).map deedD))))) 21 (.im (.fn g))) 22 (.im (.lst args)), ?_, by simp⟩
      simp [deedD, h.e5, h1])
    simpa using this
  simp [partedB, hlc]
  exact ⟨by simp [h.e3], by simp [h.e4], by simp [h.e6], by simp⟩
end K81
end Ev
end
section
set_option linter.all false
set_option maxRecDepth 100000
set_option maxHeartbeats 8000000
/-! Whole webs. -/
namespace Ev
namespace K81
open PySem Gr
theorem dlsts_map {α : Type} (f : α → D) (xs : List (List α)) : dlsts (xs.map fun x => .lst (x.map f)) = some (xs.flatten.map f) := by
  induction xs with
  | nil => rfl
  | cons x xs ih =>
    show (match dlsts (xs.map fun x => D.lst (x.map f)) with | some r => some (x.map f ++ r) | none => none) = _
    rw [ih]; simp
theorem pr_sum2_map {α : Type} (f : α → D) (xs : List (List α)) (hne : xs ≠ []) (hl : xs.flatten.length ≤ 16777216) : prim .sum2 [.lst (xs.map fun x => .lst (x.map f)), .lst []] = some (.ls (xs.flatten.map f)) := by
  cases xs with
  | nil => exact absurd rfl hne
  | cons x xs =>
    show (match dlsts ((x :: xs).map fun x => D.lst (x.map f)) with | some ds => if ds.length ≤ 16777216 then some (O.ls ds) else none | none => none) = _
    rw [dlsts_map]
    simp only [List.length_map, if_pos hl]
theorem rim_small {m ts} (hW : Web m ts) (hp : ¬ 1 < (Gr.pcs m ts).length) : mx (rimL m ts) ≤ 2 * mn (rimL m ts) := by
  have hm := hW.m1
  obtain ⟨u, v, hu, hv, e⟩ := mx_at (ts := ts) hm
  have hne : rimL m ts ≠ [] := by simp [rimL]; omega
  obtain ⟨c, hc, e'⟩ := List.mem_map.mp (mn_mem hne)
  have hc := List.mem_range.mp hc
  obtain ⟨w, hw, e2⟩ := dst_tri (whole_dst hW hp hu hc) (whole_dst hW hp hc hv)
  have h1 : dv ts u v = w := by unfold dv; rw [e2]; rfl
  have h2 : dv ts c u ≤ mx (row m ts c) := le_mx (List.mem_map.mpr ⟨u, List.mem_range.mpr hu, rfl⟩)
  have h3 : dv ts c v ≤ mx (row m ts c) := le_mx (List.mem_map.mpr ⟨v, List.mem_range.mpr hv, rfl⟩)
  rw [dv_symm] at h2
  change mx (row m ts c) = mn (rimL m ts) at e'
  omega
theorem flat_pairs (m : Nat) : ((List.range m).map fun a => (List.range' a (m - a)).map fun b => (a, b)).flatten = pairsTo m m := by
  rw [pairsTo, List.flatMap_def]
theorem pairs_len (m : Nat) (i : Nat) : (pairsTo m i).length ≤ i * m := by
  induction i with
  | zero => simp [pairsTo]
  | succ i ih => rw [pairsTo_succ, List.length_append, Nat.succ_mul]; simp; omega
section
variable {cl : Nat → List O → COut} {sg : Nat → List Nat} {m : Nat} {ts : Ties}
theorem pick2 (hW : Web m ts) (i : Nat) (hi : i = 14 ∨ i = 15) (xs : List Nat) (hl : xs.length = m) (ε : Env) (h6 : ε 6 = some (.im (.int m))) (hx : ε i = some (.im (.lst (xs.map dn)))) :
    evE cl sg (.lc (.var 20) (.name 20) (.rng [.var 6]) [.pr .eq [.pr .idx [.var i, .var 20], .pr .min1 [.var i]]] [20]) ε = .ok (.ls (((List.range m).filter fun p => decide (xs[p]? = some (mn xs))).map dn)) (rez [20] ε) := by
  have hm := hW.m10
  have hm1 := hW.m1
  have hne : xs ≠ [] := by intro e; simp [e] at hl; omega
  rw [lc_filter0 dn (List.range m) (fun p => decide (xs[p]? = some (mn xs))) dn]
  · simp [h6]; rw [itR_nat _ _ (by omega), rngD_zero]
  · simp; omega
  · intro p hp'
    have hp' : p < m := List.mem_range.mp hp'
    refine ⟨up (wipe [20] ε) 20 (.im (.int p)), ?_, by simp⟩
    have hy : xs[p]? = some (xs[p]'(by omega)) := by simp
    rw [hy]
    by_cases hc : xs[p]'(by omega) = mn xs <;> rcases hi with rfl | rfl <;> simp [hx, hy, pr_mn hne, hc]
theorem lcPairs (hW : Web m ts) (ε : Env) (h6 : ε 6 = some (.im (.int m))) (q : qt (ε 25) = true) :
    ∃ o, evE cl sg (.lc (.lc (.tup [.var 24, .var 25]) (.name 25) (.rng [.var 24, .var 6]) [] [25]) (.name 24) (.rng [.var 6]) [] [24]) ε = .ok o (rez [24] ε) ∧ o.er = .lst (((List.range m).map fun a => (List.range' a (m - a)).map fun b => (a, b)).map fun x => .lst (x.map pD)) := by
  have hm := hW.m10
  rw [lc_eq0 dn (List.range m) (fun a => some (.ls (((List.range' a (m - a)).map fun b => (a, b)).map pD)))]
  · refine ⟨_, rfl, ?_⟩
    rw [filterMap_some']
    have := mk_lss ((List.range m).map fun a => ((List.range' a (m - a)).map fun b => (a, b)).map pD)
    rw [List.map_map] at this
    rw [show (fun a => O.ls (((List.range' a (m - a)).map fun b => (a, b)).map pD)) = (O.ls ∘ fun a => ((List.range' a (m - a)).map fun b => (a, b)).map pD) from rfl, this]
    rw [List.map_map, List.map_map]; rfl
  · simp [h6]; rw [itR_nat _ _ (by omega), rngD_zero]
  · simp; omega
  · intro a ha
    have ha : a < m := List.mem_range.mp ha
    simp
    rw [lc_map0 dn (List.range' a (m - a)) (fun b => pD (a, b))]
    · simp [q, Function.comp_def]
    · simp [h6]; rw [itR_two _ _ _ (by omega), show ((m : Int) - a).toNat = m - a by omega, rngD_nat]
    · simp; omega
    · intro b hb
      exact ⟨up (wipe [25] (up (wipe [24] ε) 24 (.im (.int a)))) 25 (.im (.int b)), by simp [pD], by simp⟩
end
theorem whole_ok (n : Nat) {m ts s k} (hW : Web m ts) (hp : ¬ 1 < (Gr.pcs m ts).length) (ε : Env) (h : S1 m ts s k ε) (e13 : ε 13 = some (.lst ((deeds m ts).map fun p => .tup [.im (.fn p.1), .ls p.2]))) :
    ∃ ε', evSs (callN tbl (n + 13)) (Tab.sg tbl) [] wholeB ε = .ok .next ε' ∧ S2 m ts s ε' := by
  have hm := hW.m10
  have hm1 := hW.m1
  have hrows : ((List.range m).map fun p => D.lst (tabO m (dst ts p))) = (List.range m).map fun p => .lst ((row m ts p).map dn) := by
    apply List.map_congr_left; intro p hp'; rw [tabO_row hW hp (List.mem_range.mp hp')]
  have e7 : ∃ o, ε 7 = some o ∧ ((o = .lst ((List.range m).map fun p => .ls (tabO m (dst ts p)))) ∨ o = .ls ((List.range m).map fun p => .lst (tabO m (dst ts p)))) := by
    rcases h.e7 with h7 | h7
    · exact ⟨_, h7, .inl rfl⟩
    · exact ⟨_, h7, .inr rfl⟩
  have hit : evIt (callN tbl (n + 13)) (Tab.sg tbl) (.var 7) ε = .ok ((List.range m).map fun p => .lst ((row m ts p).map dn)) (up ε 7 (.im (.lst ((List.range m).map fun p => .lst ((row m ts p).map dn))))) := by
    rw [← hrows]
    obtain ⟨o, h7, rfl | rfl⟩ := e7 <;> simp [h7, ers_tabs]
  have l1 : evE (callN tbl (n + 13)) (Tab.sg tbl) (.lc (.pr .max1 [.var 23]) (.name 23) (.var 7) [] [23]) ε = .ok (.ls ((rimL m ts).map dn)) (rez [23] (up ε 7 (.im (.lst ((List.range m).map fun p => .lst ((row m ts p).map dn)))))) := by
    rw [lc_map (fun p => .lst ((row m ts p).map dn)) (List.range m) (fun p => dn (mx (row m ts p))) hit (by simp; omega)]
    · simp [rimL]
    · intro p hp'
      exact ⟨up (wipe [23] (up ε 7 (.im (.lst ((List.range m).map fun p => .lst ((row m ts p).map dn)))))) 23 (.im (.lst ((row m ts p).map dn))), by simp [pr_mx (row_ne hm1)], by simp⟩
  have l2 : ∀ ε : Env, ε 7 = some (.im (.lst ((List.range m).map fun p => .lst ((row m ts p).map dn)))) → evE (callN tbl (n + 13)) (Tab.sg tbl) (.lc (.pr .sum1 [.var 23]) (.name 23) (.var 7) [] [23]) ε = .ok (.ls ((sumL m ts).map dn)) (rez [23] ε) := by
    intro ε h7
    rw [lc_map0 (fun p => .lst ((row m ts p).map dn)) (List.range m) (fun p => dn ((row m ts p).sum))]
    · simp [sumL]
    · simp [h7]
    · simp; omega
    · intro p hp'
      exact ⟨up (wipe [23] ε) 23 (.im (.lst ((row m ts p).map dn))), by simp [pr_sum1], by simp⟩
  have hrl : (rimL m ts).length = m := by simp [rimL]
  have hsl : (sumL m ts).length = m := by simp [sumL]
  have hrne : rimL m ts ≠ [] := by intro e; simp [e] at hrl; omega
  have hpl := pairs_len m m
  have hmm : m * m ≤ 100 := Nat.mul_le_mul hm hm
  have l3 : ∀ ε : Env, ε 6 = some (.im (.int m)) → ε 7 = some (.im (.lst ((List.range m).map fun p => .lst ((row m ts p).map dn)))) → ε 14 = some (.ls ((rimL m ts).map dn)) → qt (ε 24) = true → qt (ε 25) = true →
      evE (callN tbl (n + 13)) (Tab.sg tbl) (.pr .idx [.lc (.tup [.var 24, .var 25]) (.tup [.name 24, .name 25]) (.pr .sum2 [.lc (.lc (.tup [.var 24, .var 25]) (.name 25) (.rng [.var 24, .var 6]) [] [25]) (.name 24) (.rng [.var 6]) [] [24], .lst []]) [.pr .eq [.pr .idx [.pr .idx [.var 7, .var 24], .var 25], .pr .max1 [.var 14]]] [24, 25], .cst (.int 0)]) ε = .ok (.im (pD (farP m ts))) (rez [24, 25] (rez [24] ε)) := by
    intro ε h6 h7 h14 q24 q25
    obtain ⟨o, ho, hoe⟩ := lcPairs (cl := callN tbl (n + 13)) (sg := Tab.sg tbl) hW ε h6 q25
    have hs2 := pr_sum2_map pD ((List.range m).map fun a => (List.range' a (m - a)).map fun b => (a, b)) (by simp; omega) (by rw [flat_pairs]; omega)
    rw [flat_pairs] at hs2
    simp only [evE_pr, evHs_cons, evH_lc]
    rw [lc_filter (ε1 := rez [24] ε) pD (pairsTo m m) (fun p => decide (dv ts p.1 p.2 = mx (rimL m ts))) pD (by simp [ho, hoe, hs2, -List.map_map]) (by omega)]
    · have hne : ∃ p, ((pairsTo m m).filter fun p => decide (dv ts p.1 p.2 = mx (rimL m ts))).head? = some p := by
        obtain ⟨u, v, hu, hv, e⟩ := mx_at (ts := ts) hm1
        have : ∃ p, p ∈ (pairsTo m m).filter fun p => decide (dv ts p.1 p.2 = mx (rimL m ts)) := by
          rcases Nat.le_total u v with h | h
          · exact ⟨(u, v), List.mem_filter.mpr ⟨mem_pairsTo.mpr (by simp; omega), by simpa using e⟩⟩
          · exact ⟨(v, u), List.mem_filter.mpr ⟨mem_pairsTo.mpr (by simp; omega), by rw [dv_symm] at e; simpa using e⟩⟩
        obtain ⟨p, hp⟩ := this
        cases hc : (pairsTo m m).filter fun p => decide (dv ts p.1 p.2 = mx (rimL m ts)) with
        | nil => rw [hc] at hp; cases hp
        | cons x xs => exact ⟨x, rfl⟩
      obtain ⟨p, hp⟩ := hne
      have hf : farP m ts = p := by unfold farP; rw [hp]; rfl
      rw [List.head?_eq_getElem?] at hp
      simp [hp, hf]
    · rintro ⟨a, b⟩ hab
      have hab' := mem_pairsTo.mp hab
      have ha : a < m := by omega
      have hb : b < m := by simp at hab'; omega
      have hg : (row m ts a)[b]? = some (dv ts a b) := by simp [row, hb]
      refine ⟨up (up (wipe [24, 25] (rez [24] ε)) 24 (.im (.int a))) 25 (.im (.int b)), ?_, by simp⟩
      by_cases hc : dv ts a b = mx (rimL m ts) <;> simp [pD, h7, h14, ha, hg, pr_mx hrne, hc]
  have p14 := fun ε h6 hx => pick2 (cl := callN tbl (n + 13)) (sg := Tab.sg tbl) hW 14 (.inl rfl) (rimL m ts) hrl ε h6 hx
  have p15 := fun ε h6 hx => pick2 (cl := callN tbl (n + 13)) (sg := Tab.sg tbl) hW 15 (.inr rfl) (sumL m ts) hsl ε h6 hx
  have c13 : callN tbl (n + 13) 13 [.im (webD m ts)] = _ := cent.rims_ok (n + 6) hW hp
  have c14 : callN tbl (n + 13) 14 [.im (webD m ts)] = _ := cent.centre_ok (n + 5) hW hp
  have c15 : callN tbl (n + 13) 15 [.im (webD m ts)] = _ := cent.width_ok (n + 5) hW hp
  have c16 : callN tbl (n + 13) 16 [.im (webD m ts)] = _ := cent.sums_ok (n + 6) hW hp
  have c17 : callN tbl (n + 13) 17 [.im (webD m ts)] = _ := cent.near_ok (n + 5) hW hp
  have c18 : callN tbl (n + 13) 18 [.im (webD m ts)] = _ := cent.ends_ok (n + 6) hW hp
  generalize hcen : ((List.range m).filter fun p => decide ((rimL m ts)[p]? = some (mn (rimL m ts)))) = cen at p14 c14
  generalize hnea : ((List.range m).filter fun p => decide ((sumL m ts)[p]? = some (mn (sumL m ts)))) = nea at p15 c17
  have hcl : cen.length ≤ m := by rw [← hcen]; have := List.length_filter_le (fun p => decide ((rimL m ts)[p]? = some (mn (rimL m ts)))) (List.range m); simpa using this
  have hnl : nea.length ≤ m := by rw [← hnea]; have := List.length_filter_le (fun p => decide ((sumL m ts)[p]? = some (mn (sumL m ts)))) (List.range m); simpa using this
  have q23 : callN tbl (n + 13) 23 [.im (.lst [.lst ((rimL m ts).map dn), .int (mx (rimL m ts)), .lst (cen.map dn), pD (farP m ts), .lst ((sumL m ts).map dn), .lst (nea.map dn)]), .im (.lst [.lst ((rimL m ts).map dn), .int (mx (rimL m ts)), .lst (cen.map dn), pD (farP m ts), .lst ((sumL m ts).map dn), .lst (nea.map dn)])] = .ret (.im (.bl true)) [] :=
    law_same ref.hsame (k := 3) (.lst (by simp) (by
      intro x hx
      simp only [List.mem_cons, List.not_mem_nil, or_false] at hx
      rcases hx with rfl | rfl | rfl | rfl | rfl | rfl
      · exact sm_dns (by omega)
      · exact .int _ _
      · exact sm_dns (by omega)
      · exact .tup (by simp) (by intro y hy; simp only [List.mem_cons, List.not_mem_nil, or_false] at hy; rcases hy with rfl | rfl <;> exact .int _ _)
      · exact sm_dns (by omega)
      · exact sm_dns (by omega))) (n + 13) (by omega)
  have hsm := rim_small hW hp
  have hgt : ¬ (2 * (mn (rimL m ts) : Int) < mx (rimL m ts)) := by omega
  have hq := h.q
  simp only [List.mem_cons, List.not_mem_nil, or_false, forall_eq_or_imp, forall_eq] at hq
  have p2 : prim .mul [.int 2, .int (mn (rimL m ts))] = some (.im (.int (2 * mn (rimL m ts)))) := pr_mul' 2 _ (by decide) (by
    have := mn_mem hrne
    obtain ⟨c, hc, e⟩ := List.mem_map.mp this
    rw [← e]
    obtain ⟨v, hv, e2⟩ := List.mem_map.mp (mx_mem (row_ne (ts := ts) (p := c) hm1))
    change dv ts c v = mx (row m ts c) at e2
    rw [← e2]
    have := dst_lt hW.In (List.mem_range.mp hc) (whole_dst hW hp (List.mem_range.mp hc) (List.mem_range.mp hv))
    simp; omega)
  simp [wholeB, l1, l2, l3, h.e3, h.e6, hq, p14, p15, pr_mx hrne, pr_mn hrne, c13, c14, c15, c16, c17, c18, q23, hgt, p2]
  have a1 : m < 16777216 := by omega
  have a2 : cen.length < 16777216 := by omega
  have a3 : nea.length < 16777216 := by omega
  simp [evS_for, evE_appAt', hrl, hsl, a1, a2, a3, c13, c14, c15, c16, c17, c18, q23, h.e3]
  exact ⟨by simp [h.e3], by simp [h.e4], by simp [h.e6], by simp [e13]⟩
end K81
end Ev
end
section
set_option linter.all false
set_option maxRecDepth 100000
set_option maxHeartbeats 8000000
/-! The end of a case; the law. -/
namespace Ev
namespace K81
open PySem Gr
def both (m : Nat) (ts : Ties) : List (Nat × List D) := [(11, [webD m ts, .int 0]), (12, [webD m ts, .int 0, .int 0])]
theorem sm_web {m ts} (hW : Web m ts) : Sm 3 (webD m ts) := by
  have := hW.len
  refine .tup (by simp) ?_
  intro x hx
  simp only [List.mem_cons, List.not_mem_nil, or_false] at hx
  rcases hx with rfl | rfl
  · exact .int _ _
  · refine .lst (by simp; omega) ?_
    intro y hy
    obtain ⟨p, _, rfl⟩ := List.mem_map.mp hy
    refine .tup (by simp) ?_
    intro z hz
    simp only [List.mem_cons, List.not_mem_nil, or_false] at hz
    rcases hz with rfl | rfl <;> exact .int _ _
theorem tail_ok (n : Nat) {m ts s} (hW : Web m ts) (hs : prim .repr1 [webD m ts] = some (.im (.str s))) (hs' : s.cps.all (· < 0x110000) = true) (ε : Env) (h : S2 m ts s ε) :
    outOf [] (evSs (callN tbl (n + 13)) (Tab.sg tbl) [] tailB ε) = .ret (.im (.bl true)) [] := by
  have hm := hW.m10
  have hm1 := hW.m1
  have w1 : callN tbl (n + 13) 33 [] = .ret (.ls wrongWebs) [] := wrong_webs (f := 33) rfl (n + 12)
  obtain ⟨wp, w2, hwp⟩ := wrong_places (T := tbl) (f := 34) rfl (n + 12) m
  have k1 : callN tbl (n + 13) 28 [.im (.lst ((both m ts ++ deeds m ts).map deedD)), .im (.int 0), .im (.str "InvalidWeb"), .im (.lst wrongWebs)] = .ret (.im (.bl true)) [] := by
    refine ref.all_ok (n := n + 12) (a := 0) (by decide) ?_
    intro p hp v hv
    have hsm := wrongWebs_sm v hv
    have hno := wrongWebs_no v hv
    have hd := deeds_web n hsm hno
    simp only [both, deeds, List.cons_append, List.nil_append, List.mem_cons, List.not_mem_nil, or_false] at hp
    rcases hp with rfl | rfl | hp
    · exact ref.refused_ok (n := n + 8) (c := 0) (N := 1) rfl _ (by simp) (by simp) (cent.dist_web (n + 1) hsm hno) (cent.dist_web (n + 1) hsm hno) knows.2.1 (by omega) hsm (by omega)
    · exact ref.refused_ok (n := n + 8) (c := 0) (N := 1) rfl _ (by simp) (by simp) (cent.sway_web (n + 1) hsm hno) (cent.sway_web (n + 1) hsm hno) knows.2.1 (by omega) hsm (by omega)
    · have h1 : p.2 = [webD m ts] ∧ p.1 ∈ [13, 15, 14, 18, 16, 17] := by
        rcases hp with rfl | rfl | rfl | rfl | rfl | rfl <;> simp
      obtain ⟨g, args⟩ := p
      obtain ⟨rfl, hg⟩ := h1
      have h2 := hd g hg
      have h3 : Tab.sg tbl g = [] := by
        simp only [List.mem_cons, List.not_mem_nil, or_false] at hg
        rcases hg with rfl | rfl | rfl | rfl | rfl | rfl <;> rfl
      exact ref.refused_ok (n := n + 8) (c := 0) (N := 1) h3 _ (by simp) (by simp) h2 h2 knows.2.1 (by omega) hsm (by omega)
  have k2 : callN tbl (n + 13) 28 [.im (.lst ((both m ts).map deedD)), .im (.int 1), .im (.str "InvalidPlace"), .im (.lst (wrongPlaces m))] = .ret (.im (.bl true)) [] := by
    refine ref.all_ok (n := n + 12) (a := 1) (by simp [wrongPlaces]) ?_
    intro p hp v hv
    obtain ⟨hsm, hnz, hno⟩ := wrongPlaces_ok m v hv
    simp only [both, List.mem_cons, List.not_mem_nil, or_false] at hp
    rcases hp with rfl | rfl
    · exact ref.refused_ok (n := n + 8) (c := 1) (N := 1) rfl _ (by simp) (by simp) (cent.dist_place (n + 1) hW hnz hno) (cent.dist_place (n + 1) hW hnz hno) knows.1 (by omega) hsm (by omega)
    · exact ref.refused_ok (n := n + 8) (c := 1) (N := 1) rfl _ (by simp) (by simp) (cent.sway_place (n + 1) hW hnz hno) (cent.sway_place (n + 1) hW hnz hno) knows.1 (by omega) hsm (by omega)
  have k3 : callN tbl (n + 13) 28 [.im (.lst [deedD (12, [webD m ts, .int 0, .int 0])]), .im (.int 2), .im (.str "InvalidPlace"), .im (.lst (wrongPlaces m))] = .ret (.im (.bl true)) [] := by
    refine ref.all_ok (deeds := [(12, [webD m ts, .int 0, .int 0])]) (n := n + 12) (a := 2) (by simp [wrongPlaces]) ?_
    intro p hp v hv
    obtain ⟨hsm, hnz, hno⟩ := wrongPlaces_ok m v hv
    rw [List.mem_singleton.mp hp]
    have h0 : (0 : Nat) < m := by omega
    exact ref.refused_ok (n := n + 8) (c := 1) (N := 1) rfl _ (by simp) (by simp) (cent.sway_other (p := 0) (n + 1) hW h0 hnz hno) (cent.sway_other (p := 0) (n + 1) hW h0 hnz hno) knows.1 (by omega) hsm (by omega)
  have q := pr_eq_str s s hs' hs'
  have qa := pr_add_lst ((both m ts).map deedD) ((deeds m ts).map deedD) (by simp [both, deeds])
  rw [← List.map_append] at qa
  simp only [both, List.map_cons, List.map_nil, deedD] at k2 k3 qa
  simp only [both, List.cons_append, List.nil_append, List.map_cons] at k1
  rcases h.e13 with e13 | e13 <;>
  simp [tailB, h.e3, h.e4, h.e6, e13, ers_deeds, w1, w2, hwp, qa, k1, k2, k3, hs, q]
theorem case_right (n : Nat) (ns : List Int) (i : Nat) (hi : i < 3) : callN tbl (n + 14) 38 [.im (.scr ns), .im (.int i)] = .ret (.im (.bl true)) [] := by
  obtain ⟨o0, fin, c0, rfl, hG0⟩ := law_generator (T := tbl) (f := 22) (g := 21) rfl rfl (n + 11) ns i (by omega)
  change callN tbl (n + 13) 22 _ = _ at c0
  have hab : ∃ most many : Nat, prim .idx [.lst [.int 10, .int 6, .int 4], .int i] = some (.im (.int most)) ∧ prim .idx [.lst [.int 24, .int 9, .int 5], .int i] = some (.im (.int many)) ∧ 2 ≤ most ∧ most ≤ 10 ∧ many ≤ 24 ∧ most ≤ many + 1 := by
    rcases (show i = 0 ∨ i = 1 ∨ i = 2 by omega) with rfl | rfl | rfl
    · exact ⟨10, 24, rfl, rfl, by omega, by omega, by omega, by omega⟩
    · exact ⟨6, 9, rfl, rfl, by omega, by omega, by omega, by omega⟩
    · exact ⟨4, 5, rfl, rfl, by omega, by omega, by omega, by omega⟩
  obtain ⟨most, many, i1, i2, h1, h2, h3, h4⟩ := hab
  obtain ⟨m, ts, o1, c1, hW, _, _, hG1⟩ := rndT.some_ok (f := 31) (fw := 29) (fh := 30) rfl rfl rfl (n + 9) 0 most many o0 hG0 (by omega) h1 h2 h3 h4
  change callN tbl (n + 13) 31 _ = _ at c1
  obtain ⟨s, r1, r2⟩ := repr_web hW
  have hm := hW.m10
  have c2 : callN tbl (n + 13) 32 [.im (.int m), .im (.lst (ts.map pD))] = .ret (.ls ((Gr.pcs m ts).map lD)) [] := law_pieces (f := 32) rfl (n + 12) m ts hW.In (by omega)
  have hst : b__law_case_right = [.asg (.name 2) (.call 22 [.var 0, .var 1]), .asg (.name 3) (.call 31 [.var 2, .pr .idx [.lst [.cst (.int 10), .cst (.int 6), .cst (.int 4)], .var 1], .pr .idx [.lst [.cst (.int 24), .cst (.int 9), .cst (.int 5)], .var 1]]),
      .par [4, 5, 6] [.pr .repr1 [.var 3], .call 32 [.pr .idx [.var 3, .cst (.int 0)], .pr .idx [.var 3, .cst (.int 1)]], .pr .idx [.var 3, .cst (.int 0)]],
      .asg (.name 7) (.lc (.call 36 [.var 3, .var 20]) (.name 20) (.rng [.var 6]) [] [20]), .for_ (.name 8) (.rng [.cst (.int 4)]) turnB,
      .asg (.name 13) (.lst [.tup [.gl (.fn 13), .lst [.var 3]], .tup [.gl (.fn 15), .lst [.var 3]], .tup [.gl (.fn 14), .lst [.var 3]], .tup [.gl (.fn 18), .lst [.var 3]], .tup [.gl (.fn 16), .lst [.var 3]], .tup [.gl (.fn 17), .lst [.var 3]]]),
      .ite (.pr .gt [.pr .len [.var 5], .cst (.int 1)]) partedB wholeB] ++ tailB := rfl
  rw [callN_succ (fd := d__law_case_right) rfl rfl]
  have hw : ∀ (ε : Env) (hs : List Hn), ε 3 = some (webO m ts) → rds ε (.slot 3 :: hs) = consD (webD m ts) (rds (up ε 3 (.im (webD m ts))) hs) := fun ε hs h => by
    have := rds_tup (hs := hs) h
    rw [this]; simp [webD]
  have lt : ∀ ε : Env, ε 3 = some (.im (webD m ts)) → ε 6 = some (.im (.int m)) → evE (callN tbl (n + 13)) (Tab.sg tbl) (.lc (.call 36 [.var 3, .var 20]) (.name 20) (.rng [.var 6]) [] [20]) ε = .ok (.lst ((List.range m).map fun p => .ls (tabO m (dst ts p)))) (rez [20] ε) := by
    intro ε h3 h6
    rw [lc_eq0 dn (List.range m) (fun p => some (.ls (tabO m (dst ts p))))]
    · rw [filterMap_some']
      have : (List.range m).map (fun p => O.ls (tabO m (dst ts p))) ≠ [] := by have := hW.m1; simp; omega
      cases e : (List.range m).map (fun p => O.ls (tabO m (dst ts p))) with
      | nil => exact absurd e this
      | cons x xs =>
        have hx : x ∈ (List.range m).map (fun p => O.ls (tabO m (dst ts p))) := by rw [e]; simp
        obtain ⟨p, _, rfl⟩ := List.mem_map.mp hx
        rfl
    · simp [h6]; rw [itR_nat _ _ (by omega), rngD_zero]
    · simp; omega
    · intro p hp
      have hp : p < m := List.mem_range.mp hp
      have c3 : callN tbl (n + 13) 36 [.im (webD m ts), .im (.int p)] = _ := law_far (g := 36) rfl (n + 12) m p ts hW.In (by have := hW.len; omega) hp (by omega)
      exact ⟨up (wipe [20] ε) 20 (.im (.int p)), by simp [h3, c3], by simp⟩
  show outOf [] (evSs (callN tbl (n + 13)) (Tab.sg tbl) [] b__law_case_right _) = _
  rw [hst]
  have hsg3 : ∀ ε : Env, ε 3 = some (webO m ts) → hVr ε 3 = .ok (.slot 3) ε := fun ε h => hVr_some h
  simp [c0, i1, i2, c1, hw, r1, c2, lt]
  refine rng_F (lo := 0) (n := 4) (fun j ε => S1 m ts s (201 + 2 * j) ε) ?_ ?_ ?_ ?_
  · simp; rw [itR_one _ _ (by decide)]; rfl
  · refine ⟨⟨o1, by simp, hG1.mono (by omega)⟩, by simp, by simp, by simp, by simp, by simp, ?_⟩
    intro j hj
    simp only [List.mem_cons, List.not_mem_nil, or_false] at hj
    rcases hj with rfl | rfl | rfl | rfl | rfl | rfl <;> simp
  · intro j ε hj h
    exact turn n hW (by omega) ε h _
  · intro ε h
    have hS : ∀ ε', S2 m ts s ε' → outOf [] (evSs (callN tbl (n + 13)) (Tab.sg tbl) [] tailB ε') = .ret (.im (.bl true)) [] := fun ε' h' => tail_ok n hW r1 r2 ε' h'
    simp only [evSs_cons]
    refine thn_F (fun ε' => S1 m ts s 209 ε' ∧ ε' 13 = some (.lst ((deeds m ts).map fun p => .tup [.im (.fn p.1), .ls p.2]))) ?_ ?_
    · obtain ⟨e2, e3, e4, e5, e6, e7, eq⟩ := h
      simp [e3]
      refine ⟨⟨by simpa using e2, by simp [e3], by simp [e4], by simp [e5], by simp [e6], by simpa using e7, by simpa using eq⟩, by simp [deeds]⟩
    · rintro ε' ⟨h1, h13⟩
      refine thn_F (S2 m ts s) ?_ hS
      by_cases hp : 1 < (Gr.pcs m ts).length
      · have hp' : (1 : Int) < (Gr.pcs m ts).length := by omega
        simp [h1.e5, hp']
        exact parted_ok n hW hp ε' h1 h13
      · have hp' : ¬ (1 : Int) < (Gr.pcs m ts).length := by omega
        simp [h1.e5, hp']
        exact whole_ok n hW hp ε' h1 h13
theorem web1 : Web 1 [] := ⟨by omega, by omega, by simp, by simp, by simp⟩
theorem web2 : Web 2 [] := ⟨by omega, by omega, by simp, by simp, by simp⟩
theorem dst_self (ts p) : dst ts p p = some 0 := (dst_isDist ts p).at_p
theorem dst_no {p v : Nat} (h : p ≠ v) : dst [] p v = none := dst_none.mpr fun h' => h (conn_nil.mp h')
theorem law (n : Nat) (ns : List Int) : callN tbl (n + 15) 39 [.im (.scr ns)] = .ret (.im (.bl true)) [] := by
  rw [callN_succ (fd := d_law) rfl rfl]
  show outOf [] (evSs (callN tbl (n + 14)) (Tab.sg tbl) [] b_law _) = _
  have hp1 : ¬ 1 < (Gr.pcs 1 []).length := by have := pcs_len web1; omega
  have c1 : callN tbl (n + 14) 18 [.im (webD 1 [])] = _ := cent.ends_ok (n + 7) web1 hp1
  have c2 : callN tbl (n + 14) 13 [.im (webD 1 [])] = _ := cent.rims_ok (n + 7) web1 hp1
  have c3 : callN tbl (n + 14) 11 [.im (webD 2 []), .im (.int (1 : Nat))] = _ := cent.dist_ok (n + 7) web2 (by omega)
  have c4 : callN tbl (n + 14) 12 [.im (webD 2 []), .im (.int (0 : Nat)), .im (.int (1 : Nat))] = _ := cent.sway_ok (n + 7) web2 (by omega) (by omega)
  have c5 : callN tbl (n + 14) 12 [.im (webD 1 []), .im (.int (0 : Nat)), .im (.int (0 : Nat))] = _ := cent.sway_ok (n + 7) web1 (by omega) (by omega)
  have hdv : dv [] 0 0 = 0 := by unfold dv; rw [dst_self]; rfl
  have hrow : row 1 [] 0 = [0] := by simp [row, hdv]
  have hrim : rimL 1 [] = [0] := by simp [rimL, hrow, mx]
  have hfar : farP 1 [] = (0, 0) := by simp [farP, pairsTo, hrim, hdv, mx]
  have ht : tabO 2 (dst [] 1) = [.non, .int 0] := by
    simp [tabO, List.range_succ, dst_self, dst_no]
  have hw1 : wayO [] 1 0 = .im .non := by unfold wayO; rw [dst_no (by omega)]
  have hw2 : wayO [] 0 0 = .ls [.int 0] := by unfold wayO; rw [dst_self]; rfl
  rw [hfar] at c1
  rw [hrim] at c2
  rw [ht] at c3
  rw [hw1] at c4
  rw [hw2] at c5
  have hs : callN tbl (n + 14) 23 [.im (.lst [.tup [.int 0, .int 0], .lst [.int 0], .lst [.non, .int 0], .non, .lst [.int 0]]), .im (.lst [.tup [.int 0, .int 0], .lst [.int 0], .lst [.non, .int 0], .non, .lst [.int 0]])] = .ret (.im (.bl true)) [] :=
    law_same ref.hsame (k := 3) (smB_sm 3 _ (by decide +kernel)) _ (by omega)
  simp only [b_law, evSs_cons]
  refine rng_F (lo := 0) (n := 3) (fun j ε => ε 0 = some (.im (.scr ns))) ?_ ?_ ?_ ?_
  · simp; rw [itR_one _ _ (by decide)]; rfl
  · simp
  · intro j ε hj h
    have hc := case_right n ns j hj
    simp [h, hc]
  · intro ε h
    simp [webD, pD] at c1 c2 c3 c4 c5
    simp [c1, c2, c3, c4, c5, hs]
end K81
end Ev
end
section
set_option linter.all false
set_option maxRecDepth 100000
set_option maxHeartbeats 4000000
/-! Printed by gen.py: bodies and tables. -/
namespace Ev
namespace K81
open PySem PySem.Spec PyProof.Rows L2
def md (K : PySem.W.Frag) : Md := ⟨tbl, ⟨fnN, clsN, numN, K⟩, pnN, ktN, numV, 3, "GameError"⟩
def top (i : Nat) : Stmt := PySem.Challenge.pw_joinorcut_k81_whole_distances.main.body.getD i (.Pass ⟨0, 0, 0, 0⟩)
theorem sc_is_whole : FnScope ["value"] ["value"] (defScope (top 6)) := ⟨rfl, rfl, rfl, by decide +kernel, rfl, by decide +kernel, by decide +kernel⟩
theorem ok_is_whole {prg : Program} {wo : World} {K : PySem.W.Frag} {mg : PySem.Str → Option Value} {a : Addr} {fo : FuncData} (F : FunD K "is_whole" "is_whole" (defArgs (top 6)) (defBody (top 6)) (defScope (top 6)) [] [] a fo) (hm : mg "is_whole" = some (.ref a)) : DefOk prg wo K mg (md K) 0 d_is_whole := by
  obtain ⟨oc, od, dV, kV, doc, pm, an, cdv, ct, osl, rfl, lk, hcd, hD, hK⟩ := F.ex
  have hD : dV = .none := by
    rcases hD with ⟨_, z⟩ | ⟨z, _⟩
    · exact z
    · exact absurd rfl z
  subst hD
  refine ⟨a, "is_whole", "is_whole", defArgs (top 6), defBody (top 6), defScope (top 6), .none, kV, doc, pm, cdv, ct, oc, an, od, osl, _, hm, lk, hcd, F.kp, sc_is_whole, rfl, fun us hl => match us, hl with | [_], _ => rfl, ?_, fun base n A0 out s0 H0 E0 G => ?_⟩
  · exact fun q hq => (by cases hq)
  · show PSs _ (defBody (top 6)) (tSs mg _ b_is_whole)
    exact (ssC (sRet (eAnd (eIsi G (aC (hV 0) (aC (hE (eTy G)) aN))) (eAnd1 (eNot (eIsi G (aC (hV 0) (aC (hE (eTy G)) aN))))))) ssN)
theorem sc_is_count : FnScope ["value"] ["value"] (defScope (top 10)) := ⟨rfl, rfl, rfl, by decide +kernel, rfl, by decide +kernel, by decide +kernel⟩
theorem ok_is_count {prg : Program} {wo : World} {K : PySem.W.Frag} {mg : PySem.Str → Option Value} {a : Addr} {fo : FuncData} (F : FunD K "is_count" "is_count" (defArgs (top 10)) (defBody (top 10)) (defScope (top 10)) [] [] a fo) (hm : mg "is_count" = some (.ref a)) : DefOk prg wo K mg (md K) 1 d_is_count := by
  obtain ⟨oc, od, dV, kV, doc, pm, an, cdv, ct, osl, rfl, lk, hcd, hD, hK⟩ := F.ex
  have hD : dV = .none := by
    rcases hD with ⟨_, z⟩ | ⟨z, _⟩
    · exact z
    · exact absurd rfl z
  subst hD
  refine ⟨a, "is_count", "is_count", defArgs (top 10), defBody (top 10), defScope (top 10), .none, kV, doc, pm, cdv, ct, oc, an, od, osl, _, hm, lk, hcd, F.kp, sc_is_count, rfl, fun us hl => match us, hl with | [_], _ => rfl, ?_, fun base n A0 out s0 H0 E0 G => ?_⟩
  · exact fun q hq => (by cases hq)
  · show PSs _ (defBody (top 10)) (tSs mg _ b_is_count)
    exact (ssC (sRet (eAnd (eCal G 0 (aC (hV 0) aN)) (eAnd1 (eCmp G .ge (hV 0) (hE eI))))) ssN)
theorem sc_is_below : FnScope ["value", "bound"] ["value", "bound"] (defScope (top 11)) := ⟨rfl, rfl, rfl, by decide +kernel, rfl, by decide +kernel, by decide +kernel⟩
theorem ok_is_below {prg : Program} {wo : World} {K : PySem.W.Frag} {mg : PySem.Str → Option Value} {a : Addr} {fo : FuncData} (F : FunD K "is_below" "is_below" (defArgs (top 11)) (defBody (top 11)) (defScope (top 11)) [] [] a fo) (hm : mg "is_below" = some (.ref a)) : DefOk prg wo K mg (md K) 2 d_is_below := by
  obtain ⟨oc, od, dV, kV, doc, pm, an, cdv, ct, osl, rfl, lk, hcd, hD, hK⟩ := F.ex
  have hD : dV = .none := by
    rcases hD with ⟨_, z⟩ | ⟨z, _⟩
    · exact z
    · exact absurd rfl z
  subst hD
  refine ⟨a, "is_below", "is_below", defArgs (top 11), defBody (top 11), defScope (top 11), .none, kV, doc, pm, cdv, ct, oc, an, od, osl, _, hm, lk, hcd, F.kp, sc_is_below, rfl, fun us hl => match us, hl with | [_, _], _ => rfl, ?_, fun base n A0 out s0 H0 E0 G => ?_⟩
  · exact fun q hq => (by cases hq)
  · show PSs _ (defBody (top 11)) (tSs mg _ b_is_below)
    exact (ssC (sRet (eAnd (eCal G 1 (aC (hV 0) aN)) (eAnd1 (eCmp G .lt (hV 0) (hV 1))))) ssN)
theorem sc_is_pair : FnScope ["many", "value"] ["many", "value"] (defScope (top 12)) := ⟨rfl, rfl, rfl, by decide +kernel, rfl, by decide +kernel, by decide +kernel⟩
theorem ok_is_pair {prg : Program} {wo : World} {K : PySem.W.Frag} {mg : PySem.Str → Option Value} {a : Addr} {fo : FuncData} (F : FunD K "is_pair" "is_pair" (defArgs (top 12)) (defBody (top 12)) (defScope (top 12)) [] [] a fo) (hm : mg "is_pair" = some (.ref a)) : DefOk prg wo K mg (md K) 3 d_is_pair := by
  obtain ⟨oc, od, dV, kV, doc, pm, an, cdv, ct, osl, rfl, lk, hcd, hD, hK⟩ := F.ex
  have hD : dV = .none := by
    rcases hD with ⟨_, z⟩ | ⟨z, _⟩
    · exact z
    · exact absurd rfl z
  subst hD
  refine ⟨a, "is_pair", "is_pair", defArgs (top 12), defBody (top 12), defScope (top 12), .none, kV, doc, pm, cdv, ct, oc, an, od, osl, _, hm, lk, hcd, F.kp, sc_is_pair, rfl, fun us hl => match us, hl with | [_, _], _ => rfl, ?_, fun base n A0 out s0 H0 E0 G => ?_⟩
  · exact fun q hq => (by cases hq)
  · show PSs _ (defBody (top 12)) (tSs mg _ b_is_pair)
    exact (ssC (sIf (tOn (wO (tNt (tvl (eIsi G (aC (hV 1) (aC (hE (eTy G)) aN))))) (wO1 (tCmp G .ne (hE (eLen G (aC (hV 1) aN))) (hE eI))))) (ssC (sRet eB) ssN) ssN) (ssC (sRet (eAnd (eCal G 2 (aC (hE (eIx G (hV 1) (hE eI))) (aC (hV 0) aN))) (eAnd (eCal G 2 (aC (hE (eIx G (hV 1) (hE eI))) (aC (hV 0) aN))) (eAnd1 (eCmp G .lt (hE (eIx G (hV 1) (hE eI))) (hE (eIx G (hV 1) (hE eI)))))))) ssN))
theorem sc_is_web : FnScope ["value", "many", "ties", "tie"] ["value"] (defScope (top 13)) := ⟨rfl, rfl, rfl, by decide +kernel, rfl, by decide +kernel, by decide +kernel⟩
theorem ok_is_web {prg : Program} {wo : World} {K : PySem.W.Frag} {mg : PySem.Str → Option Value} {a : Addr} {fo : FuncData} (F : FunD K "is_web" "is_web" (defArgs (top 13)) (defBody (top 13)) (defScope (top 13)) [] [] a fo) (hm : mg "is_web" = some (.ref a)) : DefOk prg wo K mg (md K) 4 d_is_web := by
  obtain ⟨oc, od, dV, kV, doc, pm, an, cdv, ct, osl, rfl, lk, hcd, hD, hK⟩ := F.ex
  have hD : dV = .none := by
    rcases hD with ⟨_, z⟩ | ⟨z, _⟩
    · exact z
    · exact absurd rfl z
  subst hD
  refine ⟨a, "is_web", "is_web", defArgs (top 13), defBody (top 13), defScope (top 13), .none, kV, doc, pm, cdv, ct, oc, an, od, osl, _, hm, lk, hcd, F.kp, sc_is_web, rfl, fun us hl => match us, hl with | [_], _ => rfl, ?_, fun base n A0 out s0 H0 E0 G => ?_⟩
  · exact fun q hq => (by cases hq)
  · show PSs _ (defBody (top 13)) (tSs mg _ b_is_web)
    exact (ssC (sIf (tOn (wO (tNt (tvl (eIsi G (aC (hV 0) (aC (hE (eTy G)) aN))))) (wO (tCmp G .ne (hE (eLen G (aC (hV 0) aN))) (hE eI)) (wO (tNt (tvl (eCal G 0 (aC (hE (eIx G (hV 0) (hE eI))) aN)))) (wO1 (tNt (tChn G .le .le (hE eI) (hE (eIx G (hV 0) (hE eI))) (hE (eInt G 0))))))))) (ssC (sRet eB) ssN) ssN) (ssC (sAsg G (eV 0) (gT G (gsC (gN G 1) (gsC (gN G 2) gsN)))) (ssC (sIf (tOn (wO (tNt (tvl (eIsi G (aC (hV 2) (aC (hE (eTy G)) aN))))) (wO (tCmp G .gt (hE (eLen G (aC (hV 2) aN))) (hE (eInt G 1))) (wO1 (tCmp G .ne (hE (eLc G [("tie", 3)] (iS (hV 2)) (fun _ _ _ _ _ G => (gN G 3)) (fun _ _ _ _ _ G => (q1 (tNt (tvl (eCal G 3 (aC (hV 1) (aC (hV 3) aN))))))) (fun _ _ _ _ _ G => (eV 3)))) (hE (eLst bN))))))) (ssC (sRet eB) ssN) ssN) (ssC (sRet (eCmp G .eq (hV 2) (hE (eSorted G (aC (hV 2) aN))))) ssN))))
theorem sc_check_web : FnScope ["web"] ["web"] (defScope (top 14)) := ⟨rfl, rfl, rfl, by decide +kernel, rfl, by decide +kernel, by decide +kernel⟩
theorem ok_check_web {prg : Program} {wo : World} {K : PySem.W.Frag} {mg : PySem.Str → Option Value} {a : Addr} {fo : FuncData} (F : FunD K "check_web" "check_web" (defArgs (top 14)) (defBody (top 14)) (defScope (top 14)) [] [] a fo) (hm : mg "check_web" = some (.ref a)) : DefOk prg wo K mg (md K) 5 d_check_web := by
  obtain ⟨oc, od, dV, kV, doc, pm, an, cdv, ct, osl, rfl, lk, hcd, hD, hK⟩ := F.ex
  have hD : dV = .none := by
    rcases hD with ⟨_, z⟩ | ⟨z, _⟩
    · exact z
    · exact absurd rfl z
  subst hD
  refine ⟨a, "check_web", "check_web", defArgs (top 14), defBody (top 14), defScope (top 14), .none, kV, doc, pm, cdv, ct, oc, an, od, osl, _, hm, lk, hcd, F.kp, sc_check_web, rfl, fun us hl => match us, hl with | [_], _ => rfl, ?_, fun base n A0 out s0 H0 E0 G => ?_⟩
  · exact fun q hq => (by cases hq)
  · show PSs _ (defBody (top 14)) (tSs mg _ b_check_web)
    exact (ssC (sIf (tNt (tvl (eCal G 4 (aC (hV 0) aN)))) (ssC (sRse G 0 (eV 0)) ssN) ssN) ssN)
theorem sc_check_place : FnScope ["web", "place"] ["web", "place"] (defScope (top 15)) := ⟨rfl, rfl, rfl, by decide +kernel, rfl, by decide +kernel, by decide +kernel⟩
theorem ok_check_place {prg : Program} {wo : World} {K : PySem.W.Frag} {mg : PySem.Str → Option Value} {a : Addr} {fo : FuncData} (F : FunD K "check_place" "check_place" (defArgs (top 15)) (defBody (top 15)) (defScope (top 15)) [] [] a fo) (hm : mg "check_place" = some (.ref a)) : DefOk prg wo K mg (md K) 6 d_check_place := by
  obtain ⟨oc, od, dV, kV, doc, pm, an, cdv, ct, osl, rfl, lk, hcd, hD, hK⟩ := F.ex
  have hD : dV = .none := by
    rcases hD with ⟨_, z⟩ | ⟨z, _⟩
    · exact z
    · exact absurd rfl z
  subst hD
  refine ⟨a, "check_place", "check_place", defArgs (top 15), defBody (top 15), defScope (top 15), .none, kV, doc, pm, cdv, ct, oc, an, od, osl, _, hm, lk, hcd, F.kp, sc_check_place, rfl, fun us hl => match us, hl with | [_, _], _ => rfl, ?_, fun base n A0 out s0 H0 E0 G => ?_⟩
  · exact fun q hq => (by cases hq)
  · show PSs _ (defBody (top 15)) (tSs mg _ b_check_place)
    exact (ssC (sIf (tNt (tvl (eCal G 2 (aC (hV 1) (aC (hE (eIx G (hV 0) (hE eI))) aN))))) (ssC (sRse G 1 (eV 1)) ssN) ssN) ssN)
theorem sc_labels_of : FnScope ["many", "ties", "told", "one", "other", "low", "high", "label"] ["many", "ties"] (defScope (top 16)) := ⟨rfl, rfl, rfl, by decide +kernel, rfl, by decide +kernel, by decide +kernel⟩
theorem ok_labels_of {prg : Program} {wo : World} {K : PySem.W.Frag} {mg : PySem.Str → Option Value} {a : Addr} {fo : FuncData} (F : FunD K "labels_of" "labels_of" (defArgs (top 16)) (defBody (top 16)) (defScope (top 16)) [] [] a fo) (hm : mg "labels_of" = some (.ref a)) : DefOk prg wo K mg (md K) 7 d_labels_of := by
  obtain ⟨oc, od, dV, kV, doc, pm, an, cdv, ct, osl, rfl, lk, hcd, hD, hK⟩ := F.ex
  have hD : dV = .none := by
    rcases hD with ⟨_, z⟩ | ⟨z, _⟩
    · exact z
    · exact absurd rfl z
  subst hD
  refine ⟨a, "labels_of", "labels_of", defArgs (top 16), defBody (top 16), defScope (top 16), .none, kV, doc, pm, cdv, ct, oc, an, od, osl, _, hm, lk, hcd, F.kp, sc_labels_of, rfl, fun us hl => match us, hl with | [_, _], _ => rfl, ?_, fun base n A0 out s0 H0 E0 G => ?_⟩
  · exact fun q hq => (by cases hq)
  · show PSs _ (defBody (top 16)) (tSs mg _ b_labels_of)
    exact (ssC (sAsg G (eLRng G (hV 0)) (gN G 2)) (ssC (sFor G (iS (hV 1)) (gT G (gsC (gN G 3) (gsC (gN G 4) gsN))) (ssC (sParT G [5, 6] (bC (eMin2 G (aC (hE (eIx G (hV 2) (hV 3))) (aC (hE (eIx G (hV 2) (hV 4))) aN))) (bC (eMax2 G (aC (hE (eIx G (hV 2) (hV 3))) (aC (hE (eIx G (hV 2) (hV 4))) aN))) bN)) (gT G (gsC (gN G 5) (gsC (gN G 6) gsN)))) (ssC (sLc G 2 [("label", 7)] (iS (hV 2)) (fun _ _ _ _ _ G => (gN G 7)) (fun _ _ _ _ _ G => qN) (fun _ _ _ _ _ G => (eIf (tCmp G .eq (hV 7) (hV 6)) (eV 5) (eV 7)))) ssN))) (ssC (sRetV 2 (vS 2)) ssN)))
theorem sc_pieces_of : FnScope ["many", "ties", "told", "label", "place"] ["many", "ties"] (defScope (top 17)) := ⟨rfl, rfl, rfl, by decide +kernel, rfl, by decide +kernel, by decide +kernel⟩
theorem ok_pieces_of {prg : Program} {wo : World} {K : PySem.W.Frag} {mg : PySem.Str → Option Value} {a : Addr} {fo : FuncData} (F : FunD K "pieces_of" "pieces_of" (defArgs (top 17)) (defBody (top 17)) (defScope (top 17)) [] [] a fo) (hm : mg "pieces_of" = some (.ref a)) : DefOk prg wo K mg (md K) 8 d_pieces_of := by
  obtain ⟨oc, od, dV, kV, doc, pm, an, cdv, ct, osl, rfl, lk, hcd, hD, hK⟩ := F.ex
  have hD : dV = .none := by
    rcases hD with ⟨_, z⟩ | ⟨z, _⟩
    · exact z
    · exact absurd rfl z
  subst hD
  refine ⟨a, "pieces_of", "pieces_of", defArgs (top 17), defBody (top 17), defScope (top 17), .none, kV, doc, pm, cdv, ct, oc, an, od, osl, _, hm, lk, hcd, F.kp, sc_pieces_of, rfl, fun us hl => match us, hl with | [_, _], _ => rfl, ?_, fun base n A0 out s0 H0 E0 G => ?_⟩
  · exact fun q hq => (by cases hq)
  · show PSs _ (defBody (top 17)) (tSs mg _ b_pieces_of)
    exact (ssC (sAsg G (eCal G 7 (aC (hV 0) (aC (hV 1) aN))) (gN G 2)) (ssC (sRet (eLc G [("label", 3)] (iR1 G (aC (hV 0) aN)) (fun _ _ _ _ _ G => (gN G 3)) (fun _ _ _ _ _ G => (q1 (tCmp G .in_ (hV 3) (hV 2)))) (fun _ _ _ _ _ G => (eLc G [("place", 4)] (iR1 G (aC (hV 0) aN)) (fun _ _ _ _ _ G => (gN G 4)) (fun _ _ _ _ _ G => (q1 (tCmp G .eq (hE (eIx G (hV 2) (hV 4))) (hV 3)))) (fun _ _ _ _ _ G => (eV 4)))))) ssN))
theorem sc_check_all_joined : FnScope ["web"] ["web"] (defScope (top 19)) := ⟨rfl, rfl, rfl, by decide +kernel, rfl, by decide +kernel, by decide +kernel⟩
theorem ok_check_all_joined {prg : Program} {wo : World} {K : PySem.W.Frag} {mg : PySem.Str → Option Value} {a : Addr} {fo : FuncData} (F : FunD K "check_all_joined" "check_all_joined" (defArgs (top 19)) (defBody (top 19)) (defScope (top 19)) [] [] a fo) (hm : mg "check_all_joined" = some (.ref a)) : DefOk prg wo K mg (md K) 9 d_check_all_joined := by
  obtain ⟨oc, od, dV, kV, doc, pm, an, cdv, ct, osl, rfl, lk, hcd, hD, hK⟩ := F.ex
  have hD : dV = .none := by
    rcases hD with ⟨_, z⟩ | ⟨z, _⟩
    · exact z
    · exact absurd rfl z
  subst hD
  refine ⟨a, "check_all_joined", "check_all_joined", defArgs (top 19), defBody (top 19), defScope (top 19), .none, kV, doc, pm, cdv, ct, oc, an, od, osl, _, hm, lk, hcd, F.kp, sc_check_all_joined, rfl, fun us hl => match us, hl with | [_], _ => rfl, ?_, fun base n A0 out s0 H0 E0 G => ?_⟩
  · exact fun q hq => (by cases hq)
  · show PSs _ (defBody (top 19)) (tSs mg _ b_check_all_joined)
    exact (ssC (sIf (tCmp G .gt (hE (eLen G (aC (hE (eCal G 8 (aC (hE (eIx G (hV 0) (hE eI))) (aC (hE (eIx G (hV 0) (hE eI))) aN)))) aN))) (hE eI)) (ssC (sRse G 2 (eCal G 8 (aC (hE (eIx G (hV 0) (hE eI))) (aC (hE (eIx G (hV 0) (hE eI))) aN)))) ssN) ssN) ssN)
theorem sc_far_from : FnScope ["web", "place", "told", "waiting", "now", "one", "other", "near", "far"] ["web", "place"] (defScope (top 20)) := ⟨rfl, rfl, rfl, by decide +kernel, rfl, by decide +kernel, by decide +kernel⟩
theorem ok_far_from {prg : Program} {wo : World} {K : PySem.W.Frag} {mg : PySem.Str → Option Value} {a : Addr} {fo : FuncData} (F : FunD K "far_from" "far_from" (defArgs (top 20)) (defBody (top 20)) (defScope (top 20)) [] [] a fo) (hm : mg "far_from" = some (.ref a)) : DefOk prg wo K mg (md K) 10 d_far_from := by
  obtain ⟨oc, od, dV, kV, doc, pm, an, cdv, ct, osl, rfl, lk, hcd, hD, hK⟩ := F.ex
  have hD : dV = .none := by
    rcases hD with ⟨_, z⟩ | ⟨z, _⟩
    · exact z
    · exact absurd rfl z
  subst hD
  refine ⟨a, "far_from", "far_from", defArgs (top 20), defBody (top 20), defScope (top 20), .none, kV, doc, pm, cdv, ct, oc, an, od, osl, _, hm, lk, hcd, F.kp, sc_far_from, rfl, fun us hl => match us, hl with | [_, _], _ => rfl, ?_, fun base n A0 out s0 H0 E0 G => ?_⟩
  · exact fun q hq => (by cases hq)
  · show PSs _ (defBody (top 20)) (tSs mg _ b_far_from)
    exact (ssC (sAsg G (eBin G .mul (hE (eLst (bC eN bN))) (hE (eIx G (hV 0) (hE eI)))) (gN G 2)) (ssC (sSet G 2 (vS 2) (hV 1) eI) (ssC (sAsg G (eLst (bC (eV 1) bN)) (gN G 3)) (ssC (sWhl (tCmp G .ne (hV 3) (hE (eLst bN))) (ssC (sAsg G (eIx G (hV 3) (hE eI)) (gN G 4)) (ssC (sAsg G (eSl10 G (hV 3) (hE eI)) (gN G 3)) (ssC (sFor G (iS (hE (eIx G (hV 0) (hE eI)))) (gT G (gsC (gN G 5) (gsC (gN G 6) gsN))) (ssC (sFor G (iS (hE (eTup (bC (eTup (bC (eV 5) (bC (eV 6) bN))) (bC (eTup (bC (eV 6) (bC (eV 5) bN))) bN))))) (gT G (gsC (gN G 7) (gsC (gN G 8) gsN))) (ssC (sIf (tAn (wA (tCmp G .eq (hV 7) (hV 4)) (wA1 (tCmp G .is_ (hE (eIx G (hV 2) (hV 8))) (hE eN))))) (ssC (sSet G 2 (vS 2) (hV 8) (eBin G .add (hE (eIx G (hV 2) (hV 4))) (hE eI))) (ssC (sExp (eApp 3 (vS 3) (eV 8))) ssN)) ssN) ssN)) ssN)) ssN)))) (ssC (sRetV 2 (vS 2)) ssN)))))
theorem sc_distances : FnScope ["web", "place"] ["web", "place"] (defScope (top 21)) := ⟨rfl, rfl, rfl, by decide +kernel, rfl, by decide +kernel, by decide +kernel⟩
theorem ok_distances {prg : Program} {wo : World} {K : PySem.W.Frag} {mg : PySem.Str → Option Value} {a : Addr} {fo : FuncData} (F : FunD K "distances" "distances" (defArgs (top 21)) (defBody (top 21)) (defScope (top 21)) [] [] a fo) (hm : mg "distances" = some (.ref a)) : DefOk prg wo K mg (md K) 11 d_distances := by
  obtain ⟨oc, od, dV, kV, doc, pm, an, cdv, ct, osl, rfl, lk, hcd, hD, hK⟩ := F.ex
  have hD : dV = .none := by
    rcases hD with ⟨_, z⟩ | ⟨z, _⟩
    · exact z
    · exact absurd rfl z
  subst hD
  refine ⟨a, "distances", "distances", defArgs (top 21), defBody (top 21), defScope (top 21), .none, kV, doc, pm, cdv, ct, oc, an, od, osl, _, hm, lk, hcd, F.kp, sc_distances, rfl, fun us hl => match us, hl with | [_, _], _ => rfl, ?_, fun base n A0 out s0 H0 E0 G => ?_⟩
  · intro q hq
    have hq : q ∈ ([(["place", "web"], [1, 0])] : List (List PySem.Str × List Nat)) := hq
    rcases List.mem_cons.mp hq with rfl | hq
    · exact ⟨by decide, fun ws hw => match ws, hw with | [_, _], _ => rfl⟩
    cases hq
  · show PSs _ (defBody (top 21)) (tSs mg _ b_distances)
    exact (ssC (sExp (eCal G 5 (aC (hV 0) aN))) (ssC (sExp (eCal G 6 (aC (hV 0) (aC (hV 1) aN)))) (ssC (sRet (eCal G 10 (aC (hV 0) (aC (hV 1) aN)))) ssN)))
theorem sc_shortest_way : FnScope ["web", "place", "other_place", "far", "told", "near", "one", "other"] ["web", "place", "other_place"] (defScope (top 22)) := ⟨rfl, rfl, rfl, by decide +kernel, rfl, by decide +kernel, by decide +kernel⟩
theorem ok_shortest_way {prg : Program} {wo : World} {K : PySem.W.Frag} {mg : PySem.Str → Option Value} {a : Addr} {fo : FuncData} (F : FunD K "shortest_way" "shortest_way" (defArgs (top 22)) (defBody (top 22)) (defScope (top 22)) [] [] a fo) (hm : mg "shortest_way" = some (.ref a)) : DefOk prg wo K mg (md K) 12 d_shortest_way := by
  obtain ⟨oc, od, dV, kV, doc, pm, an, cdv, ct, osl, rfl, lk, hcd, hD, hK⟩ := F.ex
  have hD : dV = .none := by
    rcases hD with ⟨_, z⟩ | ⟨z, _⟩
    · exact z
    · exact absurd rfl z
  subst hD
  refine ⟨a, "shortest_way", "shortest_way", defArgs (top 22), defBody (top 22), defScope (top 22), .none, kV, doc, pm, cdv, ct, oc, an, od, osl, _, hm, lk, hcd, F.kp, sc_shortest_way, rfl, fun us hl => match us, hl with | [_, _, _], _ => rfl, ?_, fun base n A0 out s0 H0 E0 G => ?_⟩
  · intro q hq
    have hq : q ∈ ([(["other_place", "place", "web"], [2, 1, 0])] : List (List PySem.Str × List Nat)) := hq
    rcases List.mem_cons.mp hq with rfl | hq
    · exact ⟨by decide, fun ws hw => match ws, hw with | [_, _, _], _ => rfl⟩
    cases hq
  · show PSs _ (defBody (top 22)) (tSs mg _ b_shortest_way)
    exact (ssC (sExp (eCal G 5 (aC (hV 0) aN))) (ssC (sExp (eCal G 6 (aC (hV 0) (aC (hV 1) aN)))) (ssC (sExp (eCal G 6 (aC (hV 0) (aC (hV 2) aN)))) (ssC (sAsg G (eCal G 10 (aC (hV 0) (aC (hV 2) aN))) (gN G 3)) (ssC (sIf (tCmp G .is_ (hE (eIx G (hV 3) (hV 1))) (hE eN)) (ssC (sRet eN) ssN) ssN) (ssC (sAsg G (eLst (bC (eV 1) bN)) (gN G 4)) (ssC (sWhl (tCmp G .ne (hE (eIx G (hV 4) (hE (eNeg (hE eI))))) (hV 2)) (ssC (sLc G 5 [("one", 6), ("other", 7)] (iS (hE (eIx G (hV 0) (hE eI)))) (fun _ _ _ _ _ G => (gT G (gsC (gN G 6) (gsC (gN G 7) gsN)))) (fun _ _ _ _ _ G => (q1 (tCmp G .in_ (hE (eIx G (hV 4) (hE (eNeg (hE eI))))) (hE (eTup (bC (eV 6) (bC (eV 7) bN))))))) (fun _ _ _ _ _ G => (eBin G .sub (hE (eBin G .add (hV 6) (hV 7))) (hE (eIx G (hV 4) (hE (eNeg (hE eI)))))))) (ssC (sExp (eApp 4 (vS 4) (eMin1 G (aC (hE (eLc G [("one", 6)] (iS (hV 5)) (fun _ _ _ _ _ G => (gN G 6)) (fun _ _ _ _ _ G => (q1 (tCmp G .eq (hE (eIx G (hV 3) (hV 6))) (hE (eBin G .sub (hE (eIx G (hV 3) (hE (eIx G (hV 4) (hE (eNeg (hE eI))))))) (hE eI)))))) (fun _ _ _ _ _ G => (eV 6)))) aN)))) ssN))) (ssC (sRetV 4 (vS 4)) ssN))))))))
theorem sc_rims : FnScope ["web", "place"] ["web"] (defScope (top 23)) := ⟨rfl, rfl, rfl, by decide +kernel, rfl, by decide +kernel, by decide +kernel⟩
theorem ok_rims {prg : Program} {wo : World} {K : PySem.W.Frag} {mg : PySem.Str → Option Value} {a : Addr} {fo : FuncData} (F : FunD K "rims" "rims" (defArgs (top 23)) (defBody (top 23)) (defScope (top 23)) [] [] a fo) (hm : mg "rims" = some (.ref a)) : DefOk prg wo K mg (md K) 13 d_rims := by
  obtain ⟨oc, od, dV, kV, doc, pm, an, cdv, ct, osl, rfl, lk, hcd, hD, hK⟩ := F.ex
  have hD : dV = .none := by
    rcases hD with ⟨_, z⟩ | ⟨z, _⟩
    · exact z
    · exact absurd rfl z
  subst hD
  refine ⟨a, "rims", "rims", defArgs (top 23), defBody (top 23), defScope (top 23), .none, kV, doc, pm, cdv, ct, oc, an, od, osl, _, hm, lk, hcd, F.kp, sc_rims, rfl, fun us hl => match us, hl with | [_], _ => rfl, ?_, fun base n A0 out s0 H0 E0 G => ?_⟩
  · intro q hq
    have hq : q ∈ ([(["web"], [0])] : List (List PySem.Str × List Nat)) := hq
    rcases List.mem_cons.mp hq with rfl | hq
    · exact ⟨by decide, fun ws hw => match ws, hw with | [_], _ => rfl⟩
    cases hq
  · show PSs _ (defBody (top 23)) (tSs mg _ b_rims)
    exact (ssC (sExp (eCal G 5 (aC (hV 0) aN))) (ssC (sExp (eCal G 9 (aC (hV 0) aN))) (ssC (sRet (eLc G [("place", 1)] (iR1 G (aC (hE (eIx G (hV 0) (hE eI))) aN)) (fun _ _ _ _ _ G => (gN G 1)) (fun _ _ _ _ _ G => qN) (fun _ _ _ _ _ G => (eMax1 G (aC (hE (eCal G 10 (aC (hV 0) (aC (hV 1) aN)))) aN))))) ssN)))
theorem sc_centre : FnScope ["web", "told", "place"] ["web"] (defScope (top 24)) := ⟨rfl, rfl, rfl, by decide +kernel, rfl, by decide +kernel, by decide +kernel⟩
theorem ok_centre {prg : Program} {wo : World} {K : PySem.W.Frag} {mg : PySem.Str → Option Value} {a : Addr} {fo : FuncData} (F : FunD K "centre" "centre" (defArgs (top 24)) (defBody (top 24)) (defScope (top 24)) [] [] a fo) (hm : mg "centre" = some (.ref a)) : DefOk prg wo K mg (md K) 14 d_centre := by
  obtain ⟨oc, od, dV, kV, doc, pm, an, cdv, ct, osl, rfl, lk, hcd, hD, hK⟩ := F.ex
  have hD : dV = .none := by
    rcases hD with ⟨_, z⟩ | ⟨z, _⟩
    · exact z
    · exact absurd rfl z
  subst hD
  refine ⟨a, "centre", "centre", defArgs (top 24), defBody (top 24), defScope (top 24), .none, kV, doc, pm, cdv, ct, oc, an, od, osl, _, hm, lk, hcd, F.kp, sc_centre, rfl, fun us hl => match us, hl with | [_], _ => rfl, ?_, fun base n A0 out s0 H0 E0 G => ?_⟩
  · intro q hq
    have hq : q ∈ ([(["web"], [0])] : List (List PySem.Str × List Nat)) := hq
    rcases List.mem_cons.mp hq with rfl | hq
    · exact ⟨by decide, fun ws hw => match ws, hw with | [_], _ => rfl⟩
    cases hq
  · show PSs _ (defBody (top 24)) (tSs mg _ b_centre)
    exact (ssC (sAsg G (eCal G 13 (aC (hV 0) aN)) (gN G 1)) (ssC (sRet (eLc G [("place", 2)] (iR1 G (aC (hE (eIx G (hV 0) (hE eI))) aN)) (fun _ _ _ _ _ G => (gN G 2)) (fun _ _ _ _ _ G => (q1 (tCmp G .eq (hE (eIx G (hV 1) (hV 2))) (hE (eMin1 G (aC (hV 1) aN)))))) (fun _ _ _ _ _ G => (eV 2)))) ssN))
theorem sc_width : FnScope ["web"] ["web"] (defScope (top 25)) := ⟨rfl, rfl, rfl, by decide +kernel, rfl, by decide +kernel, by decide +kernel⟩
theorem ok_width {prg : Program} {wo : World} {K : PySem.W.Frag} {mg : PySem.Str → Option Value} {a : Addr} {fo : FuncData} (F : FunD K "width" "width" (defArgs (top 25)) (defBody (top 25)) (defScope (top 25)) [] [] a fo) (hm : mg "width" = some (.ref a)) : DefOk prg wo K mg (md K) 15 d_width := by
  obtain ⟨oc, od, dV, kV, doc, pm, an, cdv, ct, osl, rfl, lk, hcd, hD, hK⟩ := F.ex
  have hD : dV = .none := by
    rcases hD with ⟨_, z⟩ | ⟨z, _⟩
    · exact z
    · exact absurd rfl z
  subst hD
  refine ⟨a, "width", "width", defArgs (top 25), defBody (top 25), defScope (top 25), .none, kV, doc, pm, cdv, ct, oc, an, od, osl, _, hm, lk, hcd, F.kp, sc_width, rfl, fun us hl => match us, hl with | [_], _ => rfl, ?_, fun base n A0 out s0 H0 E0 G => ?_⟩
  · intro q hq
    have hq : q ∈ ([(["web"], [0])] : List (List PySem.Str × List Nat)) := hq
    rcases List.mem_cons.mp hq with rfl | hq
    · exact ⟨by decide, fun ws hw => match ws, hw with | [_], _ => rfl⟩
    cases hq
  · show PSs _ (defBody (top 25)) (tSs mg _ b_width)
    exact (ssC (sRet (eMax1 G (aC (hE (eCal G 13 (aC (hV 0) aN))) aN))) ssN)
theorem sc_sums : FnScope ["web", "place"] ["web"] (defScope (top 26)) := ⟨rfl, rfl, rfl, by decide +kernel, rfl, by decide +kernel, by decide +kernel⟩
theorem ok_sums {prg : Program} {wo : World} {K : PySem.W.Frag} {mg : PySem.Str → Option Value} {a : Addr} {fo : FuncData} (F : FunD K "sums" "sums" (defArgs (top 26)) (defBody (top 26)) (defScope (top 26)) [] [] a fo) (hm : mg "sums" = some (.ref a)) : DefOk prg wo K mg (md K) 16 d_sums := by
  obtain ⟨oc, od, dV, kV, doc, pm, an, cdv, ct, osl, rfl, lk, hcd, hD, hK⟩ := F.ex
  have hD : dV = .none := by
    rcases hD with ⟨_, z⟩ | ⟨z, _⟩
    · exact z
    · exact absurd rfl z
  subst hD
  refine ⟨a, "sums", "sums", defArgs (top 26), defBody (top 26), defScope (top 26), .none, kV, doc, pm, cdv, ct, oc, an, od, osl, _, hm, lk, hcd, F.kp, sc_sums, rfl, fun us hl => match us, hl with | [_], _ => rfl, ?_, fun base n A0 out s0 H0 E0 G => ?_⟩
  · intro q hq
    have hq : q ∈ ([(["web"], [0])] : List (List PySem.Str × List Nat)) := hq
    rcases List.mem_cons.mp hq with rfl | hq
    · exact ⟨by decide, fun ws hw => match ws, hw with | [_], _ => rfl⟩
    cases hq
  · show PSs _ (defBody (top 26)) (tSs mg _ b_sums)
    exact (ssC (sExp (eCal G 5 (aC (hV 0) aN))) (ssC (sExp (eCal G 9 (aC (hV 0) aN))) (ssC (sRet (eLc G [("place", 1)] (iR1 G (aC (hE (eIx G (hV 0) (hE eI))) aN)) (fun _ _ _ _ _ G => (gN G 1)) (fun _ _ _ _ _ G => qN) (fun _ _ _ _ _ G => (eSum1 G (aC (hE (eCal G 10 (aC (hV 0) (aC (hV 1) aN)))) aN))))) ssN)))
theorem sc_nearest_to_all : FnScope ["web", "told", "place"] ["web"] (defScope (top 27)) := ⟨rfl, rfl, rfl, by decide +kernel, rfl, by decide +kernel, by decide +kernel⟩
theorem ok_nearest_to_all {prg : Program} {wo : World} {K : PySem.W.Frag} {mg : PySem.Str → Option Value} {a : Addr} {fo : FuncData} (F : FunD K "nearest_to_all" "nearest_to_all" (defArgs (top 27)) (defBody (top 27)) (defScope (top 27)) [] [] a fo) (hm : mg "nearest_to_all" = some (.ref a)) : DefOk prg wo K mg (md K) 17 d_nearest_to_all := by
  obtain ⟨oc, od, dV, kV, doc, pm, an, cdv, ct, osl, rfl, lk, hcd, hD, hK⟩ := F.ex
  have hD : dV = .none := by
    rcases hD with ⟨_, z⟩ | ⟨z, _⟩
    · exact z
    · exact absurd rfl z
  subst hD
  refine ⟨a, "nearest_to_all", "nearest_to_all", defArgs (top 27), defBody (top 27), defScope (top 27), .none, kV, doc, pm, cdv, ct, oc, an, od, osl, _, hm, lk, hcd, F.kp, sc_nearest_to_all, rfl, fun us hl => match us, hl with | [_], _ => rfl, ?_, fun base n A0 out s0 H0 E0 G => ?_⟩
  · intro q hq
    have hq : q ∈ ([(["web"], [0])] : List (List PySem.Str × List Nat)) := hq
    rcases List.mem_cons.mp hq with rfl | hq
    · exact ⟨by decide, fun ws hw => match ws, hw with | [_], _ => rfl⟩
    cases hq
  · show PSs _ (defBody (top 27)) (tSs mg _ b_nearest_to_all)
    exact (ssC (sAsg G (eCal G 16 (aC (hV 0) aN)) (gN G 1)) (ssC (sRet (eLc G [("place", 2)] (iR1 G (aC (hE (eIx G (hV 0) (hE eI))) aN)) (fun _ _ _ _ _ G => (gN G 2)) (fun _ _ _ _ _ G => (q1 (tCmp G .eq (hE (eIx G (hV 1) (hV 2))) (hE (eMin1 G (aC (hV 1) aN)))))) (fun _ _ _ _ _ G => (eV 2)))) ssN))
theorem sc_far_ends : FnScope ["web", "best", "found", "place", "told", "other"] ["web"] (defScope (top 28)) := ⟨rfl, rfl, rfl, by decide +kernel, rfl, by decide +kernel, by decide +kernel⟩
theorem ok_far_ends {prg : Program} {wo : World} {K : PySem.W.Frag} {mg : PySem.Str → Option Value} {a : Addr} {fo : FuncData} (F : FunD K "far_ends" "far_ends" (defArgs (top 28)) (defBody (top 28)) (defScope (top 28)) [] [] a fo) (hm : mg "far_ends" = some (.ref a)) : DefOk prg wo K mg (md K) 18 d_far_ends := by
  obtain ⟨oc, od, dV, kV, doc, pm, an, cdv, ct, osl, rfl, lk, hcd, hD, hK⟩ := F.ex
  have hD : dV = .none := by
    rcases hD with ⟨_, z⟩ | ⟨z, _⟩
    · exact z
    · exact absurd rfl z
  subst hD
  refine ⟨a, "far_ends", "far_ends", defArgs (top 28), defBody (top 28), defScope (top 28), .none, kV, doc, pm, cdv, ct, oc, an, od, osl, _, hm, lk, hcd, F.kp, sc_far_ends, rfl, fun us hl => match us, hl with | [_], _ => rfl, ?_, fun base n A0 out s0 H0 E0 G => ?_⟩
  · intro q hq
    have hq : q ∈ ([(["web"], [0])] : List (List PySem.Str × List Nat)) := hq
    rcases List.mem_cons.mp hq with rfl | hq
    · exact ⟨by decide, fun ws hw => match ws, hw with | [_], _ => rfl⟩
    cases hq
  · show PSs _ (defBody (top 28)) (tSs mg _ b_far_ends)
    exact (ssC (sExp (eCal G 5 (aC (hV 0) aN))) (ssC (sExp (eCal G 9 (aC (hV 0) aN))) (ssC (sParT G [1, 2] (bC (eNeg (hE eI)) (bC eN bN)) (gT G (gsC (gN G 1) (gsC (gN G 2) gsN)))) (ssC (sFor G (iR1 G (aC (hE (eIx G (hV 0) (hE eI))) aN)) (gN G 3) (ssC (sAsg G (eCal G 10 (aC (hV 0) (aC (hV 3) aN))) (gN G 4)) (ssC (sFor G (iR2 G (aC (hV 3) (aC (hE (eIx G (hV 0) (hE eI))) aN))) (gN G 5) (ssC (sIf (tCmp G .gt (hE (eIx G (hV 4) (hV 5))) (hV 1)) (ssC (sPar2 G 1 2 (bC (eIx G (hV 4) (hV 5)) (bC (eTup (bC (eV 3) (bC (eV 5) bN))) bN))) ssN) ssN) ssN)) ssN))) (ssC (sRetV 2 (vS 2)) ssN)))))
theorem sc__law_hash : FnScope ["seed", "index", "mixed"] ["seed", "index"] (defScope (top 30)) := ⟨rfl, rfl, rfl, by decide +kernel, rfl, by decide +kernel, by decide +kernel⟩
theorem ok__law_hash {prg : Program} {wo : World} {K : PySem.W.Frag} {mg : PySem.Str → Option Value} {a : Addr} {fo : FuncData} (F : FunD K "_law_hash" "_law_hash" (defArgs (top 30)) (defBody (top 30)) (defScope (top 30)) [] [] a fo) (hm : mg "_law_hash" = some (.ref a)) : DefOk prg wo K mg (md K) 19 d__law_hash := by
  obtain ⟨oc, od, dV, kV, doc, pm, an, cdv, ct, osl, rfl, lk, hcd, hD, hK⟩ := F.ex
  have hD : dV = .none := by
    rcases hD with ⟨_, z⟩ | ⟨z, _⟩
    · exact z
    · exact absurd rfl z
  subst hD
  refine ⟨a, "_law_hash", "_law_hash", defArgs (top 30), defBody (top 30), defScope (top 30), .none, kV, doc, pm, cdv, ct, oc, an, od, osl, _, hm, lk, hcd, F.kp, sc__law_hash, rfl, fun us hl => match us, hl with | [_, _], _ => rfl, ?_, fun base n A0 out s0 H0 E0 G => ?_⟩
  · exact fun q hq => (by cases hq)
  · show PSs _ (defBody (top 30)) (tSs mg _ b__law_hash)
    exact (ssC (sAsg G (eBin G .mod (hE (eInt1 G (aC (hE (eBin G .add (hE (eBin G .add (hE (eBin G .add (hE (eBin G .mul (hV 0) (hE eI))) (hE (eBin G .mul (hE (eBin G .mul (hE eI) (hV 1))) (hV 1))))) (hE (eBin G .mul (hE eI) (hV 1))))) (hE eI))) aN))) (hE eI)) (gN G 2)) (ssC (sAsg G (eBin G .mod (hE (eInt1 G (aC (hE (eBin G .add (hE (eBin G .add (hE (eBin G .mul (hV 2) (hV 2))) (hE (eBin G .mul (hE eI) (hV 1))))) (hE eI))) aN))) (hE eI)) (gN G 2)) (ssC (sRet (eBin G .mod (hE (eInt1 G (aC (hE (eBin G .mul (hV 2) (hE eI))) aN))) (hE eI))) ssN)))
theorem sc__law_random : FnScope ["generator", "bound", "drawn", "turn"] ["generator", "bound"] (defScope (top 31)) := ⟨rfl, rfl, rfl, by decide +kernel, rfl, by decide +kernel, by decide +kernel⟩
theorem ok__law_random {prg : Program} {wo : World} {K : PySem.W.Frag} {mg : PySem.Str → Option Value} {a : Addr} {fo : FuncData} (F : FunD K "_law_random" "_law_random" (defArgs (top 31)) (defBody (top 31)) (defScope (top 31)) [] [] a fo) (hm : mg "_law_random" = some (.ref a)) : DefOk prg wo K mg (md K) 20 d__law_random := by
  obtain ⟨oc, od, dV, kV, doc, pm, an, cdv, ct, osl, rfl, lk, hcd, hD, hK⟩ := F.ex
  have hD : dV = .none := by
    rcases hD with ⟨_, z⟩ | ⟨z, _⟩
    · exact z
    · exact absurd rfl z
  subst hD
  refine ⟨a, "_law_random", "_law_random", defArgs (top 31), defBody (top 31), defScope (top 31), .none, kV, doc, pm, cdv, ct, oc, an, od, osl, _, hm, lk, hcd, F.kp, sc__law_random, rfl, fun us hl => match us, hl with | [_, _], _ => rfl, ?_, fun base n A0 out s0 H0 E0 G => ?_⟩
  · exact fun q hq => (by cases hq)
  · show PSs _ (defBody (top 31)) (tSs mg _ b__law_random)
    exact (ssC (sIf (tCmp G .gt (hE (eIx G (hV 0) (hE eI))) (hE eI)) (ssC (sAsg G (eBin G .mod (hE (eInt1 G (aC (hE (eIx G (hV 0) (hE eI))) aN))) (hV 1)) (gN G 2)) (ssC (sSet G 0 (vS 0) (hE eI) (eBin G .fdiv (hE (eIx G (hV 0) (hE eI))) (hV 1))) (ssC (sRetV 2 (vS 2)) ssN))) ssN) (ssC (sAsg G eI (gN G 2)) (ssC (sFor G (iR1 G (aC (hE (eBin G .add (hE eI) (hE (eBin G .fdiv (hE (eBits G (hV 1))) (hE eI))))) aN)) (gN G 3) (ssC (sSet G 0 (vS 0) (hE eI) (eBin G .add (hE (eIx G (hV 0) (hE eI))) (hE eI))) (ssC (sAsg G (eBin G .add (hE (eBin G .mul (hV 2) (hE eI))) (hE (eCal G 19 (aC (hE (eIx G (hV 0) (hE eI))) (aC (hE (eIx G (hV 0) (hE eI))) aN))))) (gN G 2)) ssN))) (ssC (sRet (eBin G .mod (hE (eInt1 G (aC (hV 2) aN))) (hV 1))) ssN))))
theorem sc__law_cell : FnScope ["script", "index"] ["script", "index"] (defScope (top 32)) := ⟨rfl, rfl, rfl, by decide +kernel, rfl, by decide +kernel, by decide +kernel⟩
theorem ok__law_cell {prg : Program} {wo : World} {K : PySem.W.Frag} {mg : PySem.Str → Option Value} {a : Addr} {fo : FuncData} (F : FunD K "_law_cell" "_law_cell" (defArgs (top 32)) (defBody (top 32)) (defScope (top 32)) [] [] a fo) (hm : mg "_law_cell" = some (.ref a)) : DefOk prg wo K mg (md K) 21 d__law_cell := by
  obtain ⟨oc, od, dV, kV, doc, pm, an, cdv, ct, osl, rfl, lk, hcd, hD, hK⟩ := F.ex
  have hD : dV = .none := by
    rcases hD with ⟨_, z⟩ | ⟨z, _⟩
    · exact z
    · exact absurd rfl z
  subst hD
  refine ⟨a, "_law_cell", "_law_cell", defArgs (top 32), defBody (top 32), defScope (top 32), .none, kV, doc, pm, cdv, ct, oc, an, od, osl, _, hm, lk, hcd, F.kp, sc__law_cell, rfl, fun us hl => match us, hl with | [_, _], _ => rfl, ?_, fun base n A0 out s0 H0 E0 G => ?_⟩
  · exact fun q hq => (by cases hq)
  · show PSs _ (defBody (top 32)) (tSs mg _ b__law_cell)
    exact (ssC (sIf (tCmp G .lt (hV 1) (hE (eLen G (aC (hV 0) aN)))) (ssC (sRet (eIx G (hV 0) (hV 1))) ssN) ssN) (ssC (sRet (eBin G .mod (hE (eSum1 G (aC (hE (eSl01 G (hV 0) (hE eI))) aN))) (hE eI))) ssN))
theorem sc__law_generator : FnScope ["script", "index", "seed"] ["script", "index"] (defScope (top 33)) := ⟨rfl, rfl, rfl, by decide +kernel, rfl, by decide +kernel, by decide +kernel⟩
theorem ok__law_generator {prg : Program} {wo : World} {K : PySem.W.Frag} {mg : PySem.Str → Option Value} {a : Addr} {fo : FuncData} (F : FunD K "_law_generator" "_law_generator" (defArgs (top 33)) (defBody (top 33)) (defScope (top 33)) [] [] a fo) (hm : mg "_law_generator" = some (.ref a)) : DefOk prg wo K mg (md K) 22 d__law_generator := by
  obtain ⟨oc, od, dV, kV, doc, pm, an, cdv, ct, osl, rfl, lk, hcd, hD, hK⟩ := F.ex
  have hD : dV = .none := by
    rcases hD with ⟨_, z⟩ | ⟨z, _⟩
    · exact z
    · exact absurd rfl z
  subst hD
  refine ⟨a, "_law_generator", "_law_generator", defArgs (top 33), defBody (top 33), defScope (top 33), .none, kV, doc, pm, cdv, ct, oc, an, od, osl, _, hm, lk, hcd, F.kp, sc__law_generator, rfl, fun us hl => match us, hl with | [_, _], _ => rfl, ?_, fun base n A0 out s0 H0 E0 G => ?_⟩
  · exact fun q hq => (by cases hq)
  · show PSs _ (defBody (top 33)) (tSs mg _ b__law_generator)
    exact (ssC (sAsg G (eCal G 21 (aC (hV 0) (aC (hV 1) aN))) (gN G 2)) (ssC (sRet (eLst (bC (eBin G .mod (hE (eInt1 G (aC (hE (eMax2 G (aC (hE (eBin G .sub (hV 2) (hE (eBin G .pow (hE eI) (hE eI))))) (aC (hE eI) aN)))) aN))) (hE (eBin G .pow (hE (eBin G .pow (hE eI) (hE eI))) (hE eI)))) (bC (eBin G .mod (hE (eInt1 G (aC (hV 2) aN))) (hE eI)) (bC (eBin G .mul (hE eI) (hV 1)) bN))))) ssN))
theorem sc__law_same : FnScope ["told", "due", "at"] ["told", "due"] (defScope (top 34)) := ⟨rfl, rfl, rfl, by decide +kernel, rfl, by decide +kernel, by decide +kernel⟩
theorem ok__law_same {prg : Program} {wo : World} {K : PySem.W.Frag} {mg : PySem.Str → Option Value} {a : Addr} {fo : FuncData} (F : FunD K "_law_same" "_law_same" (defArgs (top 34)) (defBody (top 34)) (defScope (top 34)) [] [] a fo) (hm : mg "_law_same" = some (.ref a)) : DefOk prg wo K mg (md K) 23 d__law_same := by
  obtain ⟨oc, od, dV, kV, doc, pm, an, cdv, ct, osl, rfl, lk, hcd, hD, hK⟩ := F.ex
  have hD : dV = .none := by
    rcases hD with ⟨_, z⟩ | ⟨z, _⟩
    · exact z
    · exact absurd rfl z
  subst hD
  refine ⟨a, "_law_same", "_law_same", defArgs (top 34), defBody (top 34), defScope (top 34), .none, kV, doc, pm, cdv, ct, oc, an, od, osl, _, hm, lk, hcd, F.kp, sc__law_same, rfl, fun us hl => match us, hl with | [_, _], _ => rfl, ?_, fun base n A0 out s0 H0 E0 G => ?_⟩
  · exact fun q hq => (by cases hq)
  · show PSs _ (defBody (top 34)) (tSs mg _ b__law_same)
    exact (ssC (sIf (tOn (wO (tCmp G .is_ (hV 1) (hE eN)) (wO (tCmp G .is_ (hV 1) (hE eB)) (wO1 (tCmp G .is_ (hV 1) (hE eB)))))) (ssC (sRet (eIf (tCmp G .is_ (hV 1) (hE eN)) (eCmp G .is_ (hV 0) (hE eN)) (eIf (tCmp G .is_ (hV 1) (hE eB)) (eCmp G .is_ (hV 0) (hE eB)) (eCmp G .is_ (hV 0) (hE eB))))) ssN) ssN) (ssC (sIf (tvl (eIsi G (aC (hV 1) (aC (hE (eTup (bC (eTy G) (bC (eTy G) bN)))) aN)))) (ssC (sIf (tOn (wO (tAn (wA (tNt (tvl (eIsi G (aC (hV 0) (aC (hE (eTy G)) aN))))) (wA1 (tvl (eIsi G (aC (hV 1) (aC (hE (eTy G)) aN))))))) (wO1 (tAn (wA (tNt (tvl (eIsi G (aC (hV 0) (aC (hE (eTy G)) aN))))) (wA1 (tvl (eIsi G (aC (hV 1) (aC (hE (eTy G)) aN)))))))))) (ssC (sRet eB) ssN) ssN) (ssC (sRet (eAnd (eCmp G .eq (hE (eLen G (aC (hV 0) aN))) (hE (eLen G (aC (hV 1) aN)))) (eAnd1 (eCmp G .eq (hE (eLc G [("at", 2)] (iR1 G (aC (hE (eLen G (aC (hV 1) aN))) aN)) (fun _ _ _ _ _ G => (gN G 2)) (fun _ _ _ _ _ G => (q1 (tNt (tvl (eCal G 23 (aC (hE (eIx G (hV 0) (hV 2))) (aC (hE (eIx G (hV 1) (hV 2))) aN))))))) (fun _ _ _ _ _ G => (eV 2)))) (hE (eLst bN)))))) ssN)) ssN) (ssC (sIf (tvl (eIsi G (aC (hV 1) (aC (hE (eTy G)) aN)))) (ssC (sRet (eAnd (eIsi G (aC (hV 0) (aC (hE (eTy G)) aN))) (eAnd (eNot (eIsi G (aC (hV 0) (aC (hE (eTy G)) aN)))) (eAnd1 (eCmp G .eq (hV 0) (hV 1)))))) ssN) ssN) (ssC (sRet (eAnd (eIsi G (aC (hV 0) (aC (hE (eTy G)) aN))) (eAnd1 (eCmp G .eq (hV 0) (hV 1))))) ssN))))
theorem sc__law_call : FnScope ["deed", "args"] ["deed", "args"] (defScope (top 35)) := ⟨rfl, rfl, rfl, by decide +kernel, rfl, by decide +kernel, by decide +kernel⟩
theorem ok__law_call {prg : Program} {wo : World} {K : PySem.W.Frag} {mg : PySem.Str → Option Value} {a : Addr} {fo : FuncData} (F : FunD K "_law_call" "_law_call" (defArgs (top 35)) (defBody (top 35)) (defScope (top 35)) [] [] a fo) (hm : mg "_law_call" = some (.ref a)) : DefOk prg wo K mg (md K) 24 d__law_call := by
  obtain ⟨oc, od, dV, kV, doc, pm, an, cdv, ct, osl, rfl, lk, hcd, hD, hK⟩ := F.ex
  have hD : dV = .none := by
    rcases hD with ⟨_, z⟩ | ⟨z, _⟩
    · exact z
    · exact absurd rfl z
  subst hD
  refine ⟨a, "_law_call", "_law_call", defArgs (top 35), defBody (top 35), defScope (top 35), .none, kV, doc, pm, cdv, ct, oc, an, od, osl, _, hm, lk, hcd, F.kp, sc__law_call, rfl, fun us hl => match us, hl with | [_, _], _ => rfl, ?_, fun base n A0 out s0 H0 E0 G => ?_⟩
  · exact fun q hq => (by cases hq)
  · show PSs _ (defBody (top 35)) (tSs mg _ b__law_call)
    exact (ssC (sIf (tCmp G .eq (hE (eLen G (aC (hV 1) aN))) (hE eI)) (ssC (sRet (eCalv G 0 (aC (hE (eIx G (hV 1) (hE eI))) aN))) ssN) ssN) (ssC (sIf (tCmp G .eq (hE (eLen G (aC (hV 1) aN))) (hE eI)) (ssC (sRet (eCalv G 0 (aC (hE (eIx G (hV 1) (hE eI))) (aC (hE (eIx G (hV 1) (hE eI))) aN)))) ssN) ssN) (ssC (sIf (tCmp G .eq (hE (eLen G (aC (hV 1) aN))) (hE eI)) (ssC (sRet (eCalv G 0 (aC (hE (eIx G (hV 1) (hE eI))) (aC (hE (eIx G (hV 1) (hE eI))) (aC (hE (eIx G (hV 1) (hE eI))) aN))))) ssN) ssN) (ssC (sIf (tCmp G .eq (hE (eLen G (aC (hV 1) aN))) (hE eI)) (ssC (sRet (eCalv G 0 (aC (hE (eIx G (hV 1) (hE eI))) (aC (hE (eIx G (hV 1) (hE eI))) (aC (hE (eIx G (hV 1) (hE eI))) (aC (hE (eIx G (hV 1) (hE eI))) aN)))))) ssN) ssN) (ssC (sIf (tCmp G .eq (hE (eLen G (aC (hV 1) aN))) (hE eI)) (ssC (sRet (eCalv G 0 (aC (hE (eIx G (hV 1) (hE eI))) (aC (hE (eIx G (hV 1) (hE eI))) (aC (hE (eIx G (hV 1) (hE eI))) (aC (hE (eIx G (hV 1) (hE eI))) (aC (hE (eIx G (hV 1) (hE eI))) aN))))))) ssN) ssN) (ssC (sRet (eCalv G 0 (aC (hE (eIx G (hV 1) (hE eI))) (aC (hE (eIx G (hV 1) (hE eI))) (aC (hE (eIx G (hV 1) (hE eI))) (aC (hE (eIx G (hV 1) (hE eI))) (aC (hE (eIx G (hV 1) (hE eI))) (aC (hE (eIx G (hV 1) (hE eI))) aN)))))))) ssN))))))
theorem sc__law_mark : FnScope ["deed", "args", "mark", "e"] ["deed", "args"] (defScope (top 36)) := ⟨rfl, rfl, rfl, by decide +kernel, rfl, by decide +kernel, by decide +kernel⟩
theorem ok__law_mark {prg : Program} {wo : World} {K : PySem.W.Frag} {mg : PySem.Str → Option Value} {a : Addr} {fo : FuncData} (F : FunD K "_law_mark" "_law_mark" (defArgs (top 36)) (defBody (top 36)) (defScope (top 36)) [] [] a fo) (hm : mg "_law_mark" = some (.ref a)) : DefOk prg wo K mg (md K) 25 d__law_mark := by
  obtain ⟨oc, od, dV, kV, doc, pm, an, cdv, ct, osl, rfl, lk, hcd, hD, hK⟩ := F.ex
  have hD : dV = .none := by
    rcases hD with ⟨_, z⟩ | ⟨z, _⟩
    · exact z
    · exact absurd rfl z
  subst hD
  refine ⟨a, "_law_mark", "_law_mark", defArgs (top 36), defBody (top 36), defScope (top 36), .none, kV, doc, pm, cdv, ct, oc, an, od, osl, _, hm, lk, hcd, F.kp, sc__law_mark, rfl, fun us hl => match us, hl with | [_, _], _ => rfl, ?_, fun base n A0 out s0 H0 E0 G => ?_⟩
  · exact fun q hq => (by cases hq)
  · show PSs _ (defBody (top 36)) (tSs mg _ b__law_mark)
    exact (ssC (sAsg G eN (gN G 2)) (ssC (sTry G 0 2 3 (fun _ _ _ G => (eCal G 24 (aC (hV 0) (aC (hV 1) aN))))) (ssC (sRetV 2 (vS 2)) ssN)))
theorem sc__law_raised : FnScope ["deed", "args", "word", "value", "mark"] ["deed", "args", "word", "value"] (defScope (top 37)) := ⟨rfl, rfl, rfl, by decide +kernel, rfl, by decide +kernel, by decide +kernel⟩
theorem ok__law_raised {prg : Program} {wo : World} {K : PySem.W.Frag} {mg : PySem.Str → Option Value} {a : Addr} {fo : FuncData} (F : FunD K "_law_raised" "_law_raised" (defArgs (top 37)) (defBody (top 37)) (defScope (top 37)) [] [] a fo) (hm : mg "_law_raised" = some (.ref a)) : DefOk prg wo K mg (md K) 26 d__law_raised := by
  obtain ⟨oc, od, dV, kV, doc, pm, an, cdv, ct, osl, rfl, lk, hcd, hD, hK⟩ := F.ex
  have hD : dV = .none := by
    rcases hD with ⟨_, z⟩ | ⟨z, _⟩
    · exact z
    · exact absurd rfl z
  subst hD
  refine ⟨a, "_law_raised", "_law_raised", defArgs (top 37), defBody (top 37), defScope (top 37), .none, kV, doc, pm, cdv, ct, oc, an, od, osl, _, hm, lk, hcd, F.kp, sc__law_raised, rfl, fun us hl => match us, hl with | [_, _, _, _], _ => rfl, ?_, fun base n A0 out s0 H0 E0 G => ?_⟩
  · exact fun q hq => (by cases hq)
  · show PSs _ (defBody (top 37)) (tSs mg _ b__law_raised)
    exact (ssC (sAsg G (eCal G 25 (aC (hV 0) (aC (hV 1) aN))) (gN G 4)) (ssC (sRet (eAnd (eCmp G .isn (hV 4) (hE eN)) (eAnd (eCal G 35 (aC (hV 4) (aC (hV 2) aN))) (eAnd1 (eCal G 23 (aC (hE (eVal G (eV 4))) (aC (hV 3) aN))))))) ssN))
theorem sc__law_refused : FnScope ["deed", "args", "at", "word", "wrong", "blank", "thing"] ["deed", "args", "at", "word", "wrong"] (defScope (top 38)) := ⟨rfl, rfl, rfl, by decide +kernel, rfl, by decide +kernel, by decide +kernel⟩
theorem ok__law_refused {prg : Program} {wo : World} {K : PySem.W.Frag} {mg : PySem.Str → Option Value} {a : Addr} {fo : FuncData} (F : FunD K "_law_refused" "_law_refused" (defArgs (top 38)) (defBody (top 38)) (defScope (top 38)) [] [] a fo) (hm : mg "_law_refused" = some (.ref a)) : DefOk prg wo K mg (md K) 27 d__law_refused := by
  obtain ⟨oc, od, dV, kV, doc, pm, an, cdv, ct, osl, rfl, lk, hcd, hD, hK⟩ := F.ex
  have hD : dV = .none := by
    rcases hD with ⟨_, z⟩ | ⟨z, _⟩
    · exact z
    · exact absurd rfl z
  subst hD
  refine ⟨a, "_law_refused", "_law_refused", defArgs (top 38), defBody (top 38), defScope (top 38), .none, kV, doc, pm, cdv, ct, oc, an, od, osl, _, hm, lk, hcd, F.kp, sc__law_refused, rfl, fun us hl => match us, hl with | [_, _, _, _, _], _ => rfl, ?_, fun base n A0 out s0 H0 E0 G => ?_⟩
  · exact fun q hq => (by cases hq)
  · show PSs _ (defBody (top 38)) (tSs mg _ b__law_refused)
    exact (ssC (sAsg G (eBin G .add (hE (eBin G .add (hE (eSl01 G (hV 1) (hV 2))) (hE (eLst (bC (eV 4) bN))))) (hE (eLc G [("thing", 6)] (iS (hE (eSl10 G (hV 1) (hE (eBin G .add (hV 2) (hE eI)))))) (fun _ _ _ _ _ G => (gN G 6)) (fun _ _ _ _ _ G => qN) (fun _ _ _ _ _ G => eN)))) (gN G 5)) (ssC (sIf (tNt (tvl (eCal G 26 (aC (hV 0) (aC (hV 5) (aC (hV 3) (aC (hV 4) aN))))))) (ssC (sRet eB) ssN) ssN) (ssC (sRet (eCal G 26 (aC (hV 0) (aC (hE (eBin G .add (hE (eBin G .add (hE (eSl01 G (hV 1) (hV 2))) (hE (eLst (bC (eV 4) bN))))) (hE (eSl10 G (hV 1) (hE (eBin G .add (hV 2) (hE eI))))))) (aC (hV 3) (aC (hV 4) aN)))))) ssN)))
theorem sc__law_all_refused : FnScope ["deeds", "at", "word", "wrongs", "deed", "args", "wrong"] ["deeds", "at", "word", "wrongs"] (defScope (top 39)) := ⟨rfl, rfl, rfl, by decide +kernel, rfl, by decide +kernel, by decide +kernel⟩
theorem ok__law_all_refused {prg : Program} {wo : World} {K : PySem.W.Frag} {mg : PySem.Str → Option Value} {a : Addr} {fo : FuncData} (F : FunD K "_law_all_refused" "_law_all_refused" (defArgs (top 39)) (defBody (top 39)) (defScope (top 39)) [] [] a fo) (hm : mg "_law_all_refused" = some (.ref a)) : DefOk prg wo K mg (md K) 28 d__law_all_refused := by
  obtain ⟨oc, od, dV, kV, doc, pm, an, cdv, ct, osl, rfl, lk, hcd, hD, hK⟩ := F.ex
  have hD : dV = .none := by
    rcases hD with ⟨_, z⟩ | ⟨z, _⟩
    · exact z
    · exact absurd rfl z
  subst hD
  refine ⟨a, "_law_all_refused", "_law_all_refused", defArgs (top 39), defBody (top 39), defScope (top 39), .none, kV, doc, pm, cdv, ct, oc, an, od, osl, _, hm, lk, hcd, F.kp, sc__law_all_refused, rfl, fun us hl => match us, hl with | [_, _, _, _], _ => rfl, ?_, fun base n A0 out s0 H0 E0 G => ?_⟩
  · exact fun q hq => (by cases hq)
  · show PSs _ (defBody (top 39)) (tSs mg _ b__law_all_refused)
    exact (ssC (sFor G (iS (hV 0)) (gT G (gsC (gN G 4) (gsC (gN G 5) gsN))) (ssC (sIf (tCmp G .ne (hE (eLc G [("wrong", 6)] (iS (hV 3)) (fun _ _ _ _ _ G => (gN G 6)) (fun _ _ _ _ _ G => (q1 (tNt (tvl (eCal G 27 (aC (hV 4) (aC (hV 5) (aC (hV 1) (aC (hV 2) (aC (hV 6) aN)))))))))) (fun _ _ _ _ _ G => (eV 6)))) (hE (eLst bN))) (ssC (sRet eB) ssN) ssN) ssN)) (ssC (sRet eB) ssN))
theorem sc__law_web : FnScope ["generator", "most", "many", "places", "told", "turn", "one", "other"] ["generator", "most", "many"] (defScope (top 40)) := ⟨rfl, rfl, rfl, by decide +kernel, rfl, by decide +kernel, by decide +kernel⟩
theorem ok__law_web {prg : Program} {wo : World} {K : PySem.W.Frag} {mg : PySem.Str → Option Value} {a : Addr} {fo : FuncData} (F : FunD K "_law_web" "_law_web" (defArgs (top 40)) (defBody (top 40)) (defScope (top 40)) [] [] a fo) (hm : mg "_law_web" = some (.ref a)) : DefOk prg wo K mg (md K) 29 d__law_web := by
  obtain ⟨oc, od, dV, kV, doc, pm, an, cdv, ct, osl, rfl, lk, hcd, hD, hK⟩ := F.ex
  have hD : dV = .none := by
    rcases hD with ⟨_, z⟩ | ⟨z, _⟩
    · exact z
    · exact absurd rfl z
  subst hD
  refine ⟨a, "_law_web", "_law_web", defArgs (top 40), defBody (top 40), defScope (top 40), .none, kV, doc, pm, cdv, ct, oc, an, od, osl, _, hm, lk, hcd, F.kp, sc__law_web, rfl, fun us hl => match us, hl with | [_, _, _], _ => rfl, ?_, fun base n A0 out s0 H0 E0 G => ?_⟩
  · exact fun q hq => (by cases hq)
  · show PSs _ (defBody (top 40)) (tSs mg _ b__law_web)
    exact (ssC (sAsg G (eBin G .add (hE eI) (hE (eCal G 20 (aC (hV 0) (aC (hV 1) aN))))) (gN G 3)) (ssC (sIf (tCmp G .eq (hV 3) (hE eI)) (ssC (sRet (eTup (bC eI (bC (eLst bN) bN)))) ssN) ssN) (ssC (sAsg G (eLst bN) (gN G 4)) (ssC (sFor G (iR1 G (aC (hE (eCal G 20 (aC (hV 0) (aC (hE (eBin G .add (hV 2) (hE eI))) aN)))) aN)) (gN G 5) (ssC (sAsg G (eCal G 20 (aC (hV 0) (aC (hV 3) aN))) (gN G 6)) (ssC (sAsg G (eBin G .mod (hE (eBin G .add (hE (eBin G .add (hV 6) (hE eI))) (hE (eCal G 20 (aC (hV 0) (aC (hE (eBin G .sub (hV 3) (hE eI))) aN)))))) (hV 3)) (gN G 7)) (ssC (sExp (eApp 4 (vS 4) (eTup (bC (eMin2 G (aC (hV 6) (aC (hV 7) aN))) (bC (eMax2 G (aC (hV 6) (aC (hV 7) aN))) bN))))) ssN)))) (ssC (sRet (eTup (bC (eV 3) (bC (eSorted G (aC (hV 4) aN)) bN)))) ssN)))))
theorem sc__law_whole_web : FnScope ["generator", "most", "many", "places", "told", "one", "other", "place"] ["generator", "most", "many"] (defScope (top 41)) := ⟨rfl, rfl, rfl, by decide +kernel, rfl, by decide +kernel, by decide +kernel⟩
theorem ok__law_whole_web {prg : Program} {wo : World} {K : PySem.W.Frag} {mg : PySem.Str → Option Value} {a : Addr} {fo : FuncData} (F : FunD K "_law_whole_web" "_law_whole_web" (defArgs (top 41)) (defBody (top 41)) (defScope (top 41)) [] [] a fo) (hm : mg "_law_whole_web" = some (.ref a)) : DefOk prg wo K mg (md K) 30 d__law_whole_web := by
  obtain ⟨oc, od, dV, kV, doc, pm, an, cdv, ct, osl, rfl, lk, hcd, hD, hK⟩ := F.ex
  have hD : dV = .none := by
    rcases hD with ⟨_, z⟩ | ⟨z, _⟩
    · exact z
    · exact absurd rfl z
  subst hD
  refine ⟨a, "_law_whole_web", "_law_whole_web", defArgs (top 41), defBody (top 41), defScope (top 41), .none, kV, doc, pm, cdv, ct, oc, an, od, osl, _, hm, lk, hcd, F.kp, sc__law_whole_web, rfl, fun us hl => match us, hl with | [_, _, _], _ => rfl, ?_, fun base n A0 out s0 H0 E0 G => ?_⟩
  · exact fun q hq => (by cases hq)
  · show PSs _ (defBody (top 41)) (tSs mg _ b__law_whole_web)
    exact (ssC (sAsg G (eBin G .add (hE eI) (hE (eCal G 20 (aC (hV 0) (aC (hE (eBin G .sub (hV 1) (hE eI))) aN))))) (gN G 3)) (ssC (sLc G 4 [("place", 7)] (iR2 G (aC (hE eI) (aC (hV 3) aN))) (fun _ _ _ _ _ G => (gN G 7)) (fun _ _ _ _ _ G => qN) (fun _ _ _ _ _ G => (eTup (bC (eCal G 20 (aC (hV 0) (aC (hV 7) aN))) (bC (eV 7) bN))))) (ssC (sWhl (tAn (wA (tCmp G .lt (hE (eLen G (aC (hV 4) aN))) (hV 2)) (wA1 (tCmp G .gt (hE (eCal G 20 (aC (hV 0) (aC (hE eI) aN)))) (hE eI))))) (ssC (sAsg G (eCal G 20 (aC (hV 0) (aC (hV 3) aN))) (gN G 5)) (ssC (sAsg G (eBin G .mod (hE (eBin G .add (hE (eBin G .add (hV 5) (hE eI))) (hE (eCal G 20 (aC (hV 0) (aC (hE (eBin G .sub (hV 3) (hE eI))) aN)))))) (hV 3)) (gN G 6)) (ssC (sExp (eApp 4 (vS 4) (eTup (bC (eMin2 G (aC (hV 5) (aC (hV 6) aN))) (bC (eMax2 G (aC (hV 5) (aC (hV 6) aN))) bN))))) ssN)))) (ssC (sRet (eTup (bC (eV 3) (bC (eSorted G (aC (hV 4) aN)) bN)))) ssN))))
theorem sc__law_some_web : FnScope ["generator", "most", "many"] ["generator", "most", "many"] (defScope (top 42)) := ⟨rfl, rfl, rfl, by decide +kernel, rfl, by decide +kernel, by decide +kernel⟩
theorem ok__law_some_web {prg : Program} {wo : World} {K : PySem.W.Frag} {mg : PySem.Str → Option Value} {a : Addr} {fo : FuncData} (F : FunD K "_law_some_web" "_law_some_web" (defArgs (top 42)) (defBody (top 42)) (defScope (top 42)) [] [] a fo) (hm : mg "_law_some_web" = some (.ref a)) : DefOk prg wo K mg (md K) 31 d__law_some_web := by
  obtain ⟨oc, od, dV, kV, doc, pm, an, cdv, ct, osl, rfl, lk, hcd, hD, hK⟩ := F.ex
  have hD : dV = .none := by
    rcases hD with ⟨_, z⟩ | ⟨z, _⟩
    · exact z
    · exact absurd rfl z
  subst hD
  refine ⟨a, "_law_some_web", "_law_some_web", defArgs (top 42), defBody (top 42), defScope (top 42), .none, kV, doc, pm, cdv, ct, oc, an, od, osl, _, hm, lk, hcd, F.kp, sc__law_some_web, rfl, fun us hl => match us, hl with | [_, _, _], _ => rfl, ?_, fun base n A0 out s0 H0 E0 G => ?_⟩
  · exact fun q hq => (by cases hq)
  · show PSs _ (defBody (top 42)) (tSs mg _ b__law_some_web)
    exact (ssC (sRet (eIf (tCmp G .eq (hE (eCal G 20 (aC (hV 0) (aC (hE eI) aN)))) (hE eI)) (eCal G 29 (aC (hV 0) (aC (hV 1) (aC (hV 2) aN)))) (eCal G 30 (aC (hV 0) (aC (hE (eMax2 G (aC (hE eI) (aC (hV 1) aN)))) (aC (hV 2) aN)))))) ssN)
theorem sc__law_pieces : FnScope ["many", "ties", "parts", "one", "other", "near", "place", "part"] ["many", "ties"] (defScope (top 43)) := ⟨rfl, rfl, rfl, by decide +kernel, rfl, by decide +kernel, by decide +kernel⟩
theorem ok__law_pieces {prg : Program} {wo : World} {K : PySem.W.Frag} {mg : PySem.Str → Option Value} {a : Addr} {fo : FuncData} (F : FunD K "_law_pieces" "_law_pieces" (defArgs (top 43)) (defBody (top 43)) (defScope (top 43)) [] [] a fo) (hm : mg "_law_pieces" = some (.ref a)) : DefOk prg wo K mg (md K) 32 d__law_pieces := by
  obtain ⟨oc, od, dV, kV, doc, pm, an, cdv, ct, osl, rfl, lk, hcd, hD, hK⟩ := F.ex
  have hD : dV = .none := by
    rcases hD with ⟨_, z⟩ | ⟨z, _⟩
    · exact z
    · exact absurd rfl z
  subst hD
  refine ⟨a, "_law_pieces", "_law_pieces", defArgs (top 43), defBody (top 43), defScope (top 43), .none, kV, doc, pm, cdv, ct, oc, an, od, osl, _, hm, lk, hcd, F.kp, sc__law_pieces, rfl, fun us hl => match us, hl with | [_, _], _ => rfl, ?_, fun base n A0 out s0 H0 E0 G => ?_⟩
  · exact fun q hq => (by cases hq)
  · show PSs _ (defBody (top 43)) (tSs mg _ b__law_pieces)
    exact (ssC (sLc G 2 [("place", 6)] (iR1 G (aC (hV 0) aN)) (fun _ _ _ _ _ G => (gN G 6)) (fun _ _ _ _ _ G => qN) (fun _ _ _ _ _ G => (eLst (bC (eV 6) bN)))) (ssC (sFor G (iS (hV 1)) (gT G (gsC (gN G 3) (gsC (gN G 4) gsN))) (ssC (sAsg G (eLc G [("part", 7)] (iS (hV 2)) (fun _ _ _ _ _ G => (gN G 7)) (fun _ _ _ _ _ G => (q1 (tOn (wO (tCmp G .in_ (hV 3) (hV 7)) (wO1 (tCmp G .in_ (hV 4) (hV 7))))))) (fun _ _ _ _ _ G => (eV 7))) (gN G 5)) (ssC (sAsg G (eBin G .add (hE (eLc G [("part", 7)] (iS (hV 2)) (fun _ _ _ _ _ G => (gN G 7)) (fun _ _ _ _ _ G => (q1 (tCmp G .nin (hV 7) (hV 5)))) (fun _ _ _ _ _ G => (eV 7)))) (hE (eLst (bC (eSorted G (aC (hE (eSum2 G (aC (hV 5) (aC (hE (eLst bN)) aN)))) aN)) bN)))) (gN G 2)) ssN))) (ssC (sRet (eSorted G (aC (hV 2) aN))) ssN)))
theorem sc__law_wrong_webs : FnScope ["told"] [] (defScope (top 44)) := ⟨rfl, rfl, rfl, by decide +kernel, rfl, by decide +kernel, by decide +kernel⟩
theorem ok__law_wrong_webs {prg : Program} {wo : World} {K : PySem.W.Frag} {mg : PySem.Str → Option Value} {a : Addr} {fo : FuncData} (F : FunD K "_law_wrong_webs" "_law_wrong_webs" (defArgs (top 44)) (defBody (top 44)) (defScope (top 44)) [] [] a fo) (hm : mg "_law_wrong_webs" = some (.ref a)) : DefOk prg wo K mg (md K) 33 d__law_wrong_webs := by
  obtain ⟨oc, od, dV, kV, doc, pm, an, cdv, ct, osl, rfl, lk, hcd, hD, hK⟩ := F.ex
  have hD : dV = .none := by
    rcases hD with ⟨_, z⟩ | ⟨z, _⟩
    · exact z
    · exact absurd rfl z
  subst hD
  refine ⟨a, "_law_wrong_webs", "_law_wrong_webs", defArgs (top 44), defBody (top 44), defScope (top 44), .none, kV, doc, pm, cdv, ct, oc, an, od, osl, _, hm, lk, hcd, F.kp, sc__law_wrong_webs, rfl, fun us hl => match us, hl with | [], _ => rfl, ?_, fun base n A0 out s0 H0 E0 G => ?_⟩
  · exact fun q hq => (by cases hq)
  · show PSs _ (defBody (top 44)) (tSs mg _ b__law_wrong_webs)
    exact (ssC (sAsg G (eLst (bC eN (bC eI (bC (eTup bN) (bC (eLst bN) (bC (eTup (bC eI bN)) (bC (eLst (bC eI (bC (eLst (bC (eTup (bC eI (bC eI bN))) bN)) bN))) (bC (eTup (bC eI (bC (eLst (bC (eTup (bC eI (bC eI bN))) bN)) (bC eI bN)))) (bC (eTup (bC eI (bC (eLst bN) bN))) (bC (eTup (bC eI (bC (eLst bN) bN))) (bC (eTup (bC eB (bC (eLst bN) bN))) (bC (eTup (bC eN (bC (eLst bN) bN))) (bC (eTup (bC eS (bC (eLst bN) bN))) (bC (eTup (bC eI (bC eN bN))) (bC (eTup (bC eI (bC (eTup (bC (eTup (bC eI (bC eI bN))) bN)) bN))) (bC (eTup (bC eI (bC (eLst (bC (eTup (bC eI (bC eI bN))) bN)) bN))) bN)))))))))))))))) (gN G 0)) (ssC (sAsg G (eBin G .add (hV 0) (hE (eLst (bC (eTup (bC eI (bC (eLst (bC (eTup (bC eI (bC eI bN))) bN)) bN))) (bC (eTup (bC eI (bC (eLst (bC (eTup (bC eI (bC eI bN))) bN)) bN))) (bC (eTup (bC eI (bC (eLst (bC (eTup (bC (eNeg (hE eI)) (bC eI bN))) bN)) bN))) (bC (eTup (bC eI (bC (eLst (bC (eTup (bC eI (bC eB bN))) bN)) bN))) (bC (eTup (bC eI (bC (eLst (bC (eTup (bC eI (bC eI (bC eI bN)))) bN)) bN))) (bC (eTup (bC eI (bC (eLst (bC (eLst (bC eI (bC eI bN))) bN)) bN))) (bC (eTup (bC eI (bC (eLst (bC (eTup (bC eI bN)) bN)) bN))) (bC (eTup (bC eI (bC (eLst (bC eN bN)) bN))) (bC (eTup (bC eI (bC (eLst (bC (eTup (bC eS (bC eI bN))) bN)) bN))) bN)))))))))))) (gN G 0)) (ssC (sRet (eBin G .add (hV 0) (hE (eLst (bC (eTup (bC eI (bC (eLst (bC (eTup (bC eI (bC eI bN))) (bC (eTup (bC eI (bC eI bN))) bN))) bN))) (bC (eTup (bC eI (bC (eBin G .mul (hE (eLst (bC (eTup (bC eI (bC eI bN))) bN))) (hE eI)) bN))) (bC (eTup (bC eI (bC (eLst (bC (eTup (bC eI (bC eI bN))) (bC (eTup (bC eI (bC eI bN))) (bC (eTup (bC eI (bC eI bN))) bN)))) bN))) bN))))))) ssN)))
theorem sc__law_wrong_places : FnScope ["size"] ["size"] (defScope (top 45)) := ⟨rfl, rfl, rfl, by decide +kernel, rfl, by decide +kernel, by decide +kernel⟩
theorem ok__law_wrong_places {prg : Program} {wo : World} {K : PySem.W.Frag} {mg : PySem.Str → Option Value} {a : Addr} {fo : FuncData} (F : FunD K "_law_wrong_places" "_law_wrong_places" (defArgs (top 45)) (defBody (top 45)) (defScope (top 45)) [] [] a fo) (hm : mg "_law_wrong_places" = some (.ref a)) : DefOk prg wo K mg (md K) 34 d__law_wrong_places := by
  obtain ⟨oc, od, dV, kV, doc, pm, an, cdv, ct, osl, rfl, lk, hcd, hD, hK⟩ := F.ex
  have hD : dV = .none := by
    rcases hD with ⟨_, z⟩ | ⟨z, _⟩
    · exact z
    · exact absurd rfl z
  subst hD
  refine ⟨a, "_law_wrong_places", "_law_wrong_places", defArgs (top 45), defBody (top 45), defScope (top 45), .none, kV, doc, pm, cdv, ct, oc, an, od, osl, _, hm, lk, hcd, F.kp, sc__law_wrong_places, rfl, fun us hl => match us, hl with | [_], _ => rfl, ?_, fun base n A0 out s0 H0 E0 G => ?_⟩
  · exact fun q hq => (by cases hq)
  · show PSs _ (defBody (top 45)) (tSs mg _ b__law_wrong_places)
    exact (ssC (sRet (eLst (bC eN (bC (eV 0) (bC (eNeg (hE eI)) (bC eB (bC eS (bC (eLst (bC eI bN)) (bC (eTup (bC eI bN)) bN))))))))) ssN)
theorem sc__law_is_kind : FnScope ["mark", "word"] ["mark", "word"] (defScope (top 46)) := ⟨rfl, rfl, rfl, by decide +kernel, rfl, by decide +kernel, by decide +kernel⟩
theorem ok__law_is_kind {prg : Program} {wo : World} {K : PySem.W.Frag} {mg : PySem.Str → Option Value} {a : Addr} {fo : FuncData} (F : FunD K "_law_is_kind" "_law_is_kind" (defArgs (top 46)) (defBody (top 46)) (defScope (top 46)) [] [] a fo) (hm : mg "_law_is_kind" = some (.ref a)) : DefOk prg wo K mg (md K) 35 d__law_is_kind := by
  obtain ⟨oc, od, dV, kV, doc, pm, an, cdv, ct, osl, rfl, lk, hcd, hD, hK⟩ := F.ex
  have hD : dV = .none := by
    rcases hD with ⟨_, z⟩ | ⟨z, _⟩
    · exact z
    · exact absurd rfl z
  subst hD
  refine ⟨a, "_law_is_kind", "_law_is_kind", defArgs (top 46), defBody (top 46), defScope (top 46), .none, kV, doc, pm, cdv, ct, oc, an, od, osl, _, hm, lk, hcd, F.kp, sc__law_is_kind, rfl, fun us hl => match us, hl with | [_, _], _ => rfl, ?_, fun base n A0 out s0 H0 E0 G => ?_⟩
  · exact fun q hq => (by cases hq)
  · show PSs _ (defBody (top 46)) (tSs mg _ b__law_is_kind)
    exact (ssC (sIf (tCmp G .eq (hV 1) (hE eS)) (ssC (sRet (eIsi G (aC (hV 0) (aC (hE (eCls G 1)) aN)))) ssN) ssN) (ssC (sIf (tCmp G .eq (hV 1) (hE eS)) (ssC (sRet (eIsi G (aC (hV 0) (aC (hE (eCls G 0)) aN)))) ssN) ssN) (ssC (sIf (tCmp G .eq (hV 1) (hE eS)) (ssC (sRet (eIsi G (aC (hV 0) (aC (hE (eCls G 2)) aN)))) ssN) ssN) (ssC (sRet eB) ssN))))
theorem sc__law_far : FnScope ["web", "place", "found", "near", "step", "one", "tie"] ["web", "place"] (defScope (top 47)) := ⟨rfl, rfl, rfl, by decide +kernel, rfl, by decide +kernel, by decide +kernel⟩
theorem ok__law_far {prg : Program} {wo : World} {K : PySem.W.Frag} {mg : PySem.Str → Option Value} {a : Addr} {fo : FuncData} (F : FunD K "_law_far" "_law_far" (defArgs (top 47)) (defBody (top 47)) (defScope (top 47)) [] [] a fo) (hm : mg "_law_far" = some (.ref a)) : DefOk prg wo K mg (md K) 36 d__law_far := by
  obtain ⟨oc, od, dV, kV, doc, pm, an, cdv, ct, osl, rfl, lk, hcd, hD, hK⟩ := F.ex
  have hD : dV = .none := by
    rcases hD with ⟨_, z⟩ | ⟨z, _⟩
    · exact z
    · exact absurd rfl z
  subst hD
  refine ⟨a, "_law_far", "_law_far", defArgs (top 47), defBody (top 47), defScope (top 47), .none, kV, doc, pm, cdv, ct, oc, an, od, osl, _, hm, lk, hcd, F.kp, sc__law_far, rfl, fun us hl => match us, hl with | [_, _], _ => rfl, ?_, fun base n A0 out s0 H0 E0 G => ?_⟩
  · exact fun q hq => (by cases hq)
  · show PSs _ (defBody (top 47)) (tSs mg _ b__law_far)
    exact (ssC (sParT G [2, 3] (bC (eBin G .mul (hE (eLst (bC eN bN))) (hE (eIx G (hV 0) (hE eI)))) (bC (eLst (bC (eV 1) bN)) bN)) (gT G (gsC (gN G 2) (gsC (gN G 3) gsN)))) (ssC (sFor G (iR1 G (aC (hE (eIx G (hV 0) (hE eI))) aN)) (gN G 4) (ssC (sFor G (iS (hV 3)) (gN G 5) (ssC (sSet G 2 (vS 2) (hV 5) (eIf (tCmp G .is_ (hE (eIx G (hV 2) (hV 5))) (hE eN)) (eV 4) (eIx G (hV 2) (hV 5)))) ssN)) (ssC (sAsg G (eLc G [("one", 5)] (iR1 G (aC (hE (eIx G (hV 0) (hE eI))) aN)) (fun _ _ _ _ _ G => (gN G 5)) (fun _ _ _ _ _ G => (q1 (tAn (wA (tCmp G .is_ (hE (eIx G (hV 2) (hV 5))) (hE eN)) (wA1 (tCmp G .ne (hE (eLc G [("tie", 6)] (iS (hE (eIx G (hV 0) (hE eI)))) (fun _ _ _ _ _ G => (gN G 6)) (fun _ _ _ _ _ G => (q1 (tAn (wA (tCmp G .in_ (hV 5) (hV 6)) (wA1 (tCmp G .in_ (hE (eBin G .sub (hE (eSum1 G (aC (hV 6) aN))) (hV 5))) (hV 3))))))) (fun _ _ _ _ _ G => eI))) (hE (eLst bN)))))))) (fun _ _ _ _ _ G => (eV 5))) (gN G 3)) ssN))) (ssC (sRetV 2 (vS 2)) ssN)))
theorem sc__law_way : FnScope ["web", "start", "end", "far", "found", "near", "tie", "place"] ["web", "start", "end"] (defScope (top 48)) := ⟨rfl, rfl, rfl, by decide +kernel, rfl, by decide +kernel, by decide +kernel⟩
theorem ok__law_way {prg : Program} {wo : World} {K : PySem.W.Frag} {mg : PySem.Str → Option Value} {a : Addr} {fo : FuncData} (F : FunD K "_law_way" "_law_way" (defArgs (top 48)) (defBody (top 48)) (defScope (top 48)) [] [] a fo) (hm : mg "_law_way" = some (.ref a)) : DefOk prg wo K mg (md K) 37 d__law_way := by
  obtain ⟨oc, od, dV, kV, doc, pm, an, cdv, ct, osl, rfl, lk, hcd, hD, hK⟩ := F.ex
  have hD : dV = .none := by
    rcases hD with ⟨_, z⟩ | ⟨z, _⟩
    · exact z
    · exact absurd rfl z
  subst hD
  refine ⟨a, "_law_way", "_law_way", defArgs (top 48), defBody (top 48), defScope (top 48), .none, kV, doc, pm, cdv, ct, oc, an, od, osl, _, hm, lk, hcd, F.kp, sc__law_way, rfl, fun us hl => match us, hl with | [_, _, _], _ => rfl, ?_, fun base n A0 out s0 H0 E0 G => ?_⟩
  · exact fun q hq => (by cases hq)
  · show PSs _ (defBody (top 48)) (tSs mg _ b__law_way)
    exact (ssC (sParT G [3, 4] (bC (eCal G 36 (aC (hV 0) (aC (hV 2) aN))) (bC (eLst (bC (eV 1) bN)) bN)) (gT G (gsC (gN G 3) (gsC (gN G 4) gsN)))) (ssC (sIf (tCmp G .is_ (hE (eIx G (hV 3) (hV 1))) (hE eN)) (ssC (sRet eN) ssN) ssN) (ssC (sWhl (tCmp G .ne (hE (eIx G (hV 4) (hE (eNeg (hE eI))))) (hV 2)) (ssC (sLc G 5 [("tie", 6)] (iS (hE (eIx G (hV 0) (hE eI)))) (fun _ _ _ _ _ G => (gN G 6)) (fun _ _ _ _ _ G => (q1 (tCmp G .in_ (hE (eIx G (hV 4) (hE (eNeg (hE eI))))) (hV 6)))) (fun _ _ _ _ _ G => (eBin G .sub (hE (eSum1 G (aC (hV 6) aN))) (hE (eIx G (hV 4) (hE (eNeg (hE eI)))))))) (ssC (sExp (eApp 4 (vS 4) (eMin1 G (aC (hE (eLc G [("place", 7)] (iS (hV 5)) (fun _ _ _ _ _ G => (gN G 7)) (fun _ _ _ _ _ G => (q1 (tCmp G .lt (hE (eIx G (hV 3) (hV 7))) (hE (eIx G (hV 3) (hE (eIx G (hV 4) (hE (eNeg (hE eI)))))))))) (fun _ _ _ _ _ G => (eV 7)))) aN)))) ssN))) (ssC (sRetV 4 (vS 4)) ssN))))
theorem sc__law_case_right : FnScope ["script", "index", "generator", "web", "kept", "loose", "many", "table", "turn", "start", "end", "way", "told", "whole", "rim", "total", "far", "due", "at", "deeds", "place", "deed", "args", "row", "one", "other"] ["script", "index"] (defScope (top 49)) := ⟨rfl, rfl, rfl, by decide +kernel, rfl, by decide +kernel, by decide +kernel⟩
theorem ok__law_case_right {prg : Program} {wo : World} {K : PySem.W.Frag} {mg : PySem.Str → Option Value} {a : Addr} {fo : FuncData} (F : FunD K "_law_case_right" "_law_case_right" (defArgs (top 49)) (defBody (top 49)) (defScope (top 49)) [] [] a fo) (hm : mg "_law_case_right" = some (.ref a)) : DefOk prg wo K mg (md K) 38 d__law_case_right := by
  obtain ⟨oc, od, dV, kV, doc, pm, an, cdv, ct, osl, rfl, lk, hcd, hD, hK⟩ := F.ex
  have hD : dV = .none := by
    rcases hD with ⟨_, z⟩ | ⟨z, _⟩
    · exact z
    · exact absurd rfl z
  subst hD
  refine ⟨a, "_law_case_right", "_law_case_right", defArgs (top 49), defBody (top 49), defScope (top 49), .none, kV, doc, pm, cdv, ct, oc, an, od, osl, _, hm, lk, hcd, F.kp, sc__law_case_right, rfl, fun us hl => match us, hl with | [_, _], _ => rfl, ?_, fun base n A0 out s0 H0 E0 G => ?_⟩
  · exact fun q hq => (by cases hq)
  · show PSs _ (defBody (top 49)) (tSs mg _ b__law_case_right)
    exact (ssC (sAsg G (eCal G 22 (aC (hV 0) (aC (hV 1) aN))) (gN G 2)) (ssC (sAsg G (eCal G 31 (aC (hV 2) (aC (hE (eIx G (hE (eLst (bC eI (bC eI (bC eI bN))))) (hV 1))) (aC (hE (eIx G (hE (eLst (bC eI (bC eI (bC eI bN))))) (hV 1))) aN)))) (gN G 3)) (ssC (sParT G [4, 5, 6] (bC (eRepr G (aC (hV 3) aN)) (bC (eCal G 32 (aC (hE (eIx G (hV 3) (hE eI))) (aC (hE (eIx G (hV 3) (hE eI))) aN))) (bC (eIx G (hV 3) (hE eI)) bN))) (gT G (gsC (gN G 4) (gsC (gN G 5) (gsC (gN G 6) gsN))))) (ssC (sAsg G (eLc G [("place", 20)] (iR1 G (aC (hV 6) aN)) (fun _ _ _ _ _ G => (gN G 20)) (fun _ _ _ _ _ G => qN) (fun _ _ _ _ _ G => (eCal G 36 (aC (hV 3) (aC (hV 20) aN))))) (gN G 7)) (ssC (sFor G (iR1 G (aC (hE eI) aN)) (gN G 8) (ssC (sPar2 G 9 10 (bC (eCal G 20 (aC (hV 2) (aC (hV 6) aN))) (bC (eCal G 20 (aC (hV 2) (aC (hV 6) aN))) bN))) (ssC (sAsg G (eCal G 37 (aC (hV 3) (aC (hV 9) (aC (hV 10) aN)))) (gN G 11)) (ssC (sAsg G (eLst (bC (eCal G 11 (aC (hV 3) (aC (hV 9) aN))) (bC (eCal G 12 (aC (hV 3) (aC (hV 9) (aC (hV 10) aN)))) bN))) (gN G 12)) (ssC (sIf (tBo [] (tNt (tvl (eCal G 23 (aC (hE (eLst (bC (eV 12) (bC (eLst (bC (eCalk G 11 (["place", "web"], [1, 0]) (kC (hV 9) (kC (hV 3) kN))) (bC (eCalk G 12 (["other_place", "place", "web"], [2, 1, 0]) (kC (hV 10) (kC (hV 9) (kC (hV 3) kN)))) bN))) bN)))) (aC (hE (eBin G .mul (hE (eLst (bC (eLst (bC (eIx G (hV 7) (hV 9)) (bC (eV 11) bN))) bN))) (hE eI))) aN)))))) (ssC (sRet eB) ssN) ssN) (ssC (sExp (eAppAt 12 (th1 (vS 12) vC) vC)) (ssC (sIf (tNt (tvl (eCal G 23 (aC (hE (eCal G 11 (aC (hV 3) (aC (hV 9) aN)))) (aC (hE (eIx G (hV 7) (hV 9))) aN))))) (ssC (sRet eB) ssN) ssN) (ssC (sIf (tCmp G .isn (hV 11) (hE eN)) (ssC (sExp (eAppAt 12 (th1 (vS 12) vC) vC)) (ssC (sIf (tOn (wO (tNt (tvl (eCal G 23 (aC (hE (eCal G 12 (aC (hV 3) (aC (hV 9) (aC (hV 10) aN))))) (aC (hV 11) aN))))) (wO1 (tCmp G .ne (hE (eLen G (aC (hV 11) aN))) (hE (eBin G .add (hE (eIx G (hE (eIx G (hV 7) (hV 9))) (hV 10))) (hE eI))))))) (ssC (sRet eB) ssN) ssN) ssN)) ssN) ssN)))))))) (ssC (sAsg G (eLst (bC (eTup (bC (eFn G 13) (bC (eLst (bC (eV 3) bN)) bN))) (bC (eTup (bC (eFn G 15) (bC (eLst (bC (eV 3) bN)) bN))) (bC (eTup (bC (eFn G 14) (bC (eLst (bC (eV 3) bN)) bN))) (bC (eTup (bC (eFn G 18) (bC (eLst (bC (eV 3) bN)) bN))) (bC (eTup (bC (eFn G 16) (bC (eLst (bC (eV 3) bN)) bN))) (bC (eTup (bC (eFn G 17) (bC (eLst (bC (eV 3) bN)) bN))) bN))))))) (gN G 13)) (ssC (sIf (tCmp G .gt (hE (eLen G (aC (hV 5) aN))) (hE eI)) (ssC (sIf (tCmp G .ne (hE (eLc G [("deed", 21), ("args", 22)] (iS (hV 13)) (fun _ _ _ _ _ G => (gT G (gsC (gN G 21) (gsC (gN G 22) gsN)))) (fun _ _ _ _ _ G => (q1 (tNt (tvl (eCal G 26 (aC (hV 21) (aC (hV 22) (aC (hE eS) (aC (hV 5) aN))))))))) (fun _ _ _ _ _ G => (eV 21)))) (hE (eLst bN))) (ssC (sRet eB) ssN) ssN) ssN) (ssC (sParT G [14, 15] (bC (eLc G [("row", 23)] (iS (hV 7)) (fun _ _ _ _ _ G => (gN G 23)) (fun _ _ _ _ _ G => qN) (fun _ _ _ _ _ G => (eMax1 G (aC (hV 23) aN)))) (bC (eLc G [("row", 23)] (iS (hV 7)) (fun _ _ _ _ _ G => (gN G 23)) (fun _ _ _ _ _ G => qN) (fun _ _ _ _ _ G => (eSum1 G (aC (hV 23) aN)))) bN)) (gT G (gsC (gN G 14) (gsC (gN G 15) gsN)))) (ssC (sAsg G (eIx G (hE (eLc G [("one", 24), ("other", 25)] (iS (hE (eSum2 G (aC (hE (eLc G [("one", 24)] (iR1 G (aC (hV 6) aN)) (fun _ _ _ _ _ G => (gN G 24)) (fun _ _ _ _ _ G => qN) (fun _ _ _ _ _ G => (eLc G [("other", 25)] (iR2 G (aC (hV 24) (aC (hV 6) aN))) (fun _ _ _ _ _ G => (gN G 25)) (fun _ _ _ _ _ G => qN) (fun _ _ _ _ _ G => (eTup (bC (eV 24) (bC (eV 25) bN)))))))) (aC (hE (eLst bN)) aN))))) (fun _ _ _ _ _ G => (gT G (gsC (gN G 24) (gsC (gN G 25) gsN)))) (fun _ _ _ _ _ G => (q1 (tCmp G .eq (hE (eIx G (hE (eIx G (hV 7) (hV 24))) (hV 25))) (hE (eMax1 G (aC (hV 14) aN)))))) (fun _ _ _ _ _ G => (eTup (bC (eV 24) (bC (eV 25) bN)))))) (hE eI)) (gN G 16)) (ssC (sAsg G (eLst (bC (eV 14) (bC (eMax1 G (aC (hV 14) aN)) (bC (eLc G [("place", 20)] (iR1 G (aC (hV 6) aN)) (fun _ _ _ _ _ G => (gN G 20)) (fun _ _ _ _ _ G => (q1 (tCmp G .eq (hE (eIx G (hV 14) (hV 20))) (hE (eMin1 G (aC (hV 14) aN)))))) (fun _ _ _ _ _ G => (eV 20))) (bC (eV 16) (bC (eV 15) (bC (eLc G [("place", 20)] (iR1 G (aC (hV 6) aN)) (fun _ _ _ _ _ G => (gN G 20)) (fun _ _ _ _ _ G => (q1 (tCmp G .eq (hE (eIx G (hV 15) (hV 20))) (hE (eMin1 G (aC (hV 15) aN)))))) (fun _ _ _ _ _ G => (eV 20))) bN))))))) (gN G 17)) (ssC (sAsg G (eLst (bC (eCal G 13 (aC (hV 3) aN)) (bC (eCal G 15 (aC (hV 3) aN)) (bC (eCal G 14 (aC (hV 3) aN)) (bC (eCal G 18 (aC (hV 3) aN)) (bC (eCal G 16 (aC (hV 3) aN)) (bC (eCal G 17 (aC (hV 3) aN)) bN))))))) (gN G 12)) (ssC (sIf (tBo [] (tOn (wO (tNt (tvl (eCal G 23 (aC (hV 12) (aC (hV 17) aN))))) (wO1 (tCmp G .gt (hE (eMax1 G (aC (hV 14) aN))) (hE (eBin G .mul (hE eI) (hE (eMin1 G (aC (hV 14) aN)))))))))) (ssC (sRet eB) ssN) ssN) (ssC (sFor G (iS (hE (eTup (bC eI (bC eI (bC eI (bC eI bN))))))) (gN G 18) (ssC (sExp (eAppAt 12 (th1 (vS 12) (vV 18)) vC)) ssN)) (ssC (sIf (tNt (tvl (eCal G 23 (aC (hE (eLst (bC (eCalk G 13 (["web"], [0]) (kC (hV 3) kN)) (bC (eCalk G 15 (["web"], [0]) (kC (hV 3) kN)) (bC (eCalk G 14 (["web"], [0]) (kC (hV 3) kN)) (bC (eCalk G 18 (["web"], [0]) (kC (hV 3) kN)) (bC (eCalk G 16 (["web"], [0]) (kC (hV 3) kN)) (bC (eCalk G 17 (["web"], [0]) (kC (hV 3) kN)) bN)))))))) (aC (hV 17) aN))))) (ssC (sRet eB) ssN) ssN) ssN)))))))) (ssC (sAsg G (eLst (bC (eTup (bC (eFn G 11) (bC (eLst (bC (eV 3) (bC eI bN))) bN))) (bC (eTup (bC (eFn G 12) (bC (eLst (bC (eV 3) (bC eI (bC eI bN)))) bN))) bN))) (gN G 19)) (ssC (sIf (tOn (wO (tNt (tvl (eCal G 28 (aC (hE (eBin G .add (hV 19) (hV 13))) (aC (hE eI) (aC (hE eS) (aC (hE (eCal0 G 33)) aN))))))) (wO1 (tNt (tvl (eCal G 28 (aC (hV 19) (aC (hE eI) (aC (hE eS) (aC (hE (eCal G 34 (aC (hV 6) aN))) aN)))))))))) (ssC (sRet eB) ssN) ssN) (ssC (sRet (eAnd (eCal G 28 (aC (hE (eSl10 G (hV 19) (hE eI))) (aC (hE eI) (aC (hE eS) (aC (hE (eCal G 34 (aC (hV 6) aN))) aN))))) (eAnd1 (eCmp G .eq (hE (eRepr G (aC (hV 3) aN))) (hV 4))))) ssN))))))))))
theorem sc_law : FnScope ["script", "index"] ["script"] (defScope (top 50)) := ⟨rfl, rfl, rfl, by decide +kernel, rfl, by decide +kernel, by decide +kernel⟩
theorem ok_law {prg : Program} {wo : World} {K : PySem.W.Frag} {mg : PySem.Str → Option Value} {a : Addr} {fo : FuncData} (F : FunD K "law" "law" (defArgs (top 50)) (defBody (top 50)) (defScope (top 50)) [] [] a fo) (hm : mg "law" = some (.ref a)) : DefOk prg wo K mg (md K) 39 d_law := by
  obtain ⟨oc, od, dV, kV, doc, pm, an, cdv, ct, osl, rfl, lk, hcd, hD, hK⟩ := F.ex
  have hD : dV = .none := by
    rcases hD with ⟨_, z⟩ | ⟨z, _⟩
    · exact z
    · exact absurd rfl z
  subst hD
  refine ⟨a, "law", "law", defArgs (top 50), defBody (top 50), defScope (top 50), .none, kV, doc, pm, cdv, ct, oc, an, od, osl, _, hm, lk, hcd, F.kp, sc_law, rfl, fun us hl => match us, hl with | [_], _ => rfl, ?_, fun base n A0 out s0 H0 E0 G => ?_⟩
  · exact fun q hq => (by cases hq)
  · show PSs _ (defBody (top 50)) (tSs mg _ b_law)
    exact (ssC (sFor G (iR1 G (aC (hE eI) aN)) (gN G 1) (ssC (sIf (tNt (tvl (eCal G 38 (aC (hV 0) (aC (hV 1) aN))))) (ssC (sRet eB) ssN) ssN) ssN)) (ssC (sRet (eCal G 23 (aC (hE (eLst (bC (eCal G 18 (aC (hE (eTup (bC eI (bC (eLst bN) bN)))) aN)) (bC (eCal G 13 (aC (hE (eTup (bC eI (bC (eLst bN) bN)))) aN)) (bC (eCal G 11 (aC (hE (eTup (bC eI (bC (eLst bN) bN)))) (aC (hE eI) aN))) (bC (eCal G 12 (aC (hE (eTup (bC eI (bC (eLst bN) bN)))) (aC (hE eI) (aC (hE eI) aN)))) (bC (eCal G 12 (aC (hE (eTup (bC eI (bC (eLst bN) bN)))) (aC (hE eI) (aC (hE eI) aN)))) bN))))))) (aC (hE (eLst (bC (eTup (bC eI (bC eI bN))) (bC (eLst (bC eI bN)) (bC (eLst (bC eN (bC eI bN))) (bC eN (bC (eLst (bC eI bN)) bN))))))) aN)))) ssN))
end K81
end Ev
end
section
set_option linter.all false
set_option maxRecDepth 100000
set_option maxHeartbeats 4000000
/-! The head, printed by genh.py. -/
namespace Ev
namespace K81
open PySem PySem.Spec PyProof.Rows L2
def k_InvalidWeb : ClD := ⟨"InvalidWeb", "InvalidWeb.__init__", ⟨6, 17, 6, 21⟩, ⟨6, 23, 6, 28⟩, ⟨6, 29, 6, 33⟩, ⟨7, 8, 7, 13⟩, ⟨7, 8, 7, 15⟩, ⟨7, 8, 7, 24⟩, ⟨7, 25, 7, 30⟩, ⟨7, 8, 7, 31⟩, ⟨7, 8, 7, 31⟩, ⟨8, 8, 8, 12⟩, ⟨8, 8, 8, 18⟩, ⟨8, 21, 8, 26⟩, ⟨8, 8, 8, 26⟩⟩
theorem ev_InvalidWeb : k_InvalidWeb.Ev := fun env => ⟨_, rfl⟩
def k_InvalidPlace : ClD := ⟨"InvalidPlace", "InvalidPlace.__init__", ⟨11, 17, 11, 21⟩, ⟨11, 23, 11, 28⟩, ⟨11, 29, 11, 33⟩, ⟨12, 8, 12, 13⟩, ⟨12, 8, 12, 15⟩, ⟨12, 8, 12, 24⟩, ⟨12, 25, 12, 30⟩, ⟨12, 8, 12, 31⟩, ⟨12, 8, 12, 31⟩, ⟨13, 8, 13, 12⟩, ⟨13, 8, 13, 18⟩, ⟨13, 21, 13, 26⟩, ⟨13, 8, 13, 26⟩⟩
theorem ev_InvalidPlace : k_InvalidPlace.Ev := fun env => ⟨_, rfl⟩
def k_Parted : ClD := ⟨"Parted", "Parted.__init__", ⟨16, 17, 16, 21⟩, ⟨16, 23, 16, 28⟩, ⟨16, 29, 16, 33⟩, ⟨17, 8, 17, 13⟩, ⟨17, 8, 17, 15⟩, ⟨17, 8, 17, 24⟩, ⟨17, 25, 17, 30⟩, ⟨17, 8, 17, 31⟩, ⟨17, 8, 17, 31⟩, ⟨18, 8, 18, 12⟩, ⟨18, 8, 18, 18⟩, ⟨18, 21, 18, 26⟩, ⟨18, 8, 18, 26⟩⟩
theorem ev_Parted : k_Parted.Ev := fun env => ⟨_, rfl⟩
def cs : List ClD := [k_InvalidWeb, k_InvalidPlace, k_Parted]
def ds : List (PySem.Str × Stmt) := [(("is_whole" : PySem.Str), top 6), (("is_count" : PySem.Str), top 10), (("is_below" : PySem.Str), top 11), (("is_pair" : PySem.Str), top 12), (("is_web" : PySem.Str), top 13), (("check_web" : PySem.Str), top 14), (("check_place" : PySem.Str), top 15), (("labels_of" : PySem.Str), top 16), (("pieces_of" : PySem.Str), top 17), (("check_all_joined" : PySem.Str), top 19)] ++ [(("far_from" : PySem.Str), top 20), (("distances" : PySem.Str), top 21), (("shortest_way" : PySem.Str), top 22), (("rims" : PySem.Str), top 23), (("centre" : PySem.Str), top 24), (("width" : PySem.Str), top 25), (("sums" : PySem.Str), top 26), (("nearest_to_all" : PySem.Str), top 27), (("far_ends" : PySem.Str), top 28), (("_law_hash" : PySem.Str), top 30)] ++ [(("_law_random" : PySem.Str), top 31), (("_law_cell" : PySem.Str), top 32), (("_law_generator" : PySem.Str), top 33), (("_law_same" : PySem.Str), top 34), (("_law_call" : PySem.Str), top 35), (("_law_mark" : PySem.Str), top 36), (("_law_raised" : PySem.Str), top 37), (("_law_refused" : PySem.Str), top 38), (("_law_all_refused" : PySem.Str), top 39), (("_law_web" : PySem.Str), top 40)] ++ [(("_law_whole_web" : PySem.Str), top 41), (("_law_some_web" : PySem.Str), top 42), (("_law_pieces" : PySem.Str), top 43), (("_law_wrong_webs" : PySem.Str), top 44), (("_law_wrong_places" : PySem.Str), top 45), (("_law_is_kind" : PySem.Str), top 46), (("_law_far" : PySem.Str), top 47), (("_law_way" : PySem.Str), top 48), (("_law_case_right" : PySem.Str), top 49), (("law" : PySem.Str), top 50)]
def nums : List (PySem.Str × Int) := [(("MOST_PLACES" : PySem.Str), (10 : Int)), (("MOST_TIES" : PySem.Str), (24 : Int))]
theorem defs {prg : Program} {wo : World} {K : PySem.W.Frag} {mg : PySem.Str → Option Value} (H : ∀ (i : Nat) (p : PySem.Str × Stmt), ds[i]? = some p → ∃ a fd, FunD K p.1 p.1 (defArgs p.2) (defBody p.2) (defScope p.2) [] [] a fd ∧ mg p.1 = some (.ref a)) : ∀ f fd, tbl f = some fd → DefOk prg wo K mg (md K) f fd
  | 0, fd, h => by
    cases (show some d_is_whole = some fd from h)
    obtain ⟨a, fo, F, hm⟩ := H 0 _ rfl
    exact ok_is_whole F hm
  | 1, fd, h => by
    cases (show some d_is_count = some fd from h)
    obtain ⟨a, fo, F, hm⟩ := H 1 _ rfl
    exact ok_is_count F hm
  | 2, fd, h => by
    cases (show some d_is_below = some fd from h)
    obtain ⟨a, fo, F, hm⟩ := H 2 _ rfl
    exact ok_is_below F hm
  | 3, fd, h => by
    cases (show some d_is_pair = some fd from h)
    obtain ⟨a, fo, F, hm⟩ := H 3 _ rfl
    exact ok_is_pair F hm
  | 4, fd, h => by
    cases (show some d_is_web = some fd from h)
    obtain ⟨a, fo, F, hm⟩ := H 4 _ rfl
    exact ok_is_web F hm
  | 5, fd, h => by
    cases (show some d_check_web = some fd from h)
    obtain ⟨a, fo, F, hm⟩ := H 5 _ rfl
    exact ok_check_web F hm
  | 6, fd, h => by
    cases (show some d_check_place = some fd from h)
    obtain ⟨a, fo, F, hm⟩ := H 6 _ rfl
    exact ok_check_place F hm
  | 7, fd, h => by
    cases (show some d_labels_of = some fd from h)
    obtain ⟨a, fo, F, hm⟩ := H 7 _ rfl
    exact ok_labels_of F hm
  | 8, fd, h => by
    cases (show some d_pieces_of = some fd from h)
    obtain ⟨a, fo, F, hm⟩ := H 8 _ rfl
    exact ok_pieces_of F hm
  | 9, fd, h => by
    cases (show some d_check_all_joined = some fd from h)
    obtain ⟨a, fo, F, hm⟩ := H 9 _ rfl
    exact ok_check_all_joined F hm
  | 10, fd, h => by
    cases (show some d_far_from = some fd from h)
    obtain ⟨a, fo, F, hm⟩ := H 10 _ rfl
    exact ok_far_from F hm
  | 11, fd, h => by
    cases (show some d_distances = some fd from h)
    obtain ⟨a, fo, F, hm⟩ := H 11 _ rfl
    exact ok_distances F hm
  | 12, fd, h => by
    cases (show some d_shortest_way = some fd from h)
    obtain ⟨a, fo, F, hm⟩ := H 12 _ rfl
    exact ok_shortest_way F hm
  | 13, fd, h => by
    cases (show some d_rims = some fd from h)
    obtain ⟨a, fo, F, hm⟩ := H 13 _ rfl
    exact ok_rims F hm
  | 14, fd, h => by
    cases (show some d_centre = some fd from h)
    obtain ⟨a, fo, F, hm⟩ := H 14 _ rfl
    exact ok_centre F hm
  | 15, fd, h => by
    cases (show some d_width = some fd from h)
    obtain ⟨a, fo, F, hm⟩ := H 15 _ rfl
    exact ok_width F hm
  | 16, fd, h => by
    cases (show some d_sums = some fd from h)
    obtain ⟨a, fo, F, hm⟩ := H 16 _ rfl
    exact ok_sums F hm
  | 17, fd, h => by
    cases (show some d_nearest_to_all = some fd from h)
    obtain ⟨a, fo, F, hm⟩ := H 17 _ rfl
    exact ok_nearest_to_all F hm
  | 18, fd, h => by
    cases (show some d_far_ends = some fd from h)
    obtain ⟨a, fo, F, hm⟩ := H 18 _ rfl
    exact ok_far_ends F hm
  | 19, fd, h => by
    cases (show some d__law_hash = some fd from h)
    obtain ⟨a, fo, F, hm⟩ := H 19 _ rfl
    exact ok__law_hash F hm
  | 20, fd, h => by
    cases (show some d__law_random = some fd from h)
    obtain ⟨a, fo, F, hm⟩ := H 20 _ rfl
    exact ok__law_random F hm
  | 21, fd, h => by
    cases (show some d__law_cell = some fd from h)
    obtain ⟨a, fo, F, hm⟩ := H 21 _ rfl
    exact ok__law_cell F hm
  | 22, fd, h => by
    cases (show some d__law_generator = some fd from h)
    obtain ⟨a, fo, F, hm⟩ := H 22 _ rfl
    exact ok__law_generator F hm
  | 23, fd, h => by
    cases (show some d__law_same = some fd from h)
    obtain ⟨a, fo, F, hm⟩ := H 23 _ rfl
    exact ok__law_same F hm
  | 24, fd, h => by
    cases (show some d__law_call = some fd from h)
    obtain ⟨a, fo, F, hm⟩ := H 24 _ rfl
    exact ok__law_call F hm
  | 25, fd, h => by
    cases (show some d__law_mark = some fd from h)
    obtain ⟨a, fo, F, hm⟩ := H 25 _ rfl
    exact ok__law_mark F hm
  | 26, fd, h => by
    cases (show some d__law_raised = some fd from h)
    obtain ⟨a, fo, F, hm⟩ := H 26 _ rfl
    exact ok__law_raised F hm
  | 27, fd, h => by
    cases (show some d__law_refused = some fd from h)
    obtain ⟨a, fo, F, hm⟩ := H 27 _ rfl
    exact ok__law_refused F hm
  | 28, fd, h => by
    cases (show some d__law_all_refused = some fd from h)
    obtain ⟨a, fo, F, hm⟩ := H 28 _ rfl
    exact ok__law_all_refused F hm
  | 29, fd, h => by
    cases (show some d__law_web = some fd from h)
    obtain ⟨a, fo, F, hm⟩ := H 29 _ rfl
    exact ok__law_web F hm
  | 30, fd, h => by
    cases (show some d__law_whole_web = some fd from h)
    obtain ⟨a, fo, F, hm⟩ := H 30 _ rfl
    exact ok__law_whole_web F hm
  | 31, fd, h => by
    cases (show some d__law_some_web = some fd from h)
    obtain ⟨a, fo, F, hm⟩ := H 31 _ rfl
    exact ok__law_some_web F hm
  | 32, fd, h => by
    cases (show some d__law_pieces = some fd from h)
    obtain ⟨a, fo, F, hm⟩ := H 32 _ rfl
    exact ok__law_pieces F hm
  | 33, fd, h => by
    cases (show some d__law_wrong_webs = some fd from h)
    obtain ⟨a, fo, F, hm⟩ := H 33 _ rfl
    exact ok__law_wrong_webs F hm
  | 34, fd, h => by
    cases (show some d__law_wrong_places = some fd from h)
    obtain ⟨a, fo, F, hm⟩ := H 34 _ rfl
    exact ok__law_wrong_places F hm
  | 35, fd, h => by
    cases (show some d__law_is_kind = some fd from h)
    obtain ⟨a, fo, F, hm⟩ := H 35 _ rfl
    exact ok__law_is_kind F hm
  | 36, fd, h => by
    cases (show some d__law_far = some fd from h)
    obtain ⟨a, fo, F, hm⟩ := H 36 _ rfl
    exact ok__law_far F hm
  | 37, fd, h => by
    cases (show some d__law_way = some fd from h)
    obtain ⟨a, fo, F, hm⟩ := H 37 _ rfl
    exact ok__law_way F hm
  | 38, fd, h => by
    cases (show some d__law_case_right = some fd from h)
    obtain ⟨a, fo, F, hm⟩ := H 38 _ rfl
    exact ok__law_case_right F hm
  | 39, fd, h => by
    cases (show some d_law = some fd from h)
    obtain ⟨a, fo, F, hm⟩ := H 39 _ rfl
    exact ok_law F hm
  | n + 40, fd, h => by cases h
theorem one : ∀ f fd, tbl f = some fd → fd.mp.length ≤ 1
  | 0, fd, h => by
    cases (show some d_is_whole = some fd from h)
    exact Nat.ble_eq.mp rfl
  | 1, fd, h => by
    cases (show some d_is_count = some fd from h)
    exact Nat.ble_eq.mp rfl
  | 2, fd, h => by
    cases (show some d_is_below = some fd from h)
    exact Nat.ble_eq.mp rfl
  | 3, fd, h => by
    cases (show some d_is_pair = some fd from h)
    exact Nat.ble_eq.mp rfl
  | 4, fd, h => by
    cases (show some d_is_web = some fd from h)
    exact Nat.ble_eq.mp rfl
  | 5, fd, h => by
    cases (show some d_check_web = some fd from h)
    exact Nat.ble_eq.mp rfl
  | 6, fd, h => by
    cases (show some d_check_place = some fd from h)
    exact Nat.ble_eq.mp rfl
  | 7, fd, h => by
    cases (show some d_labels_of = some fd from h)
    exact Nat.ble_eq.mp rfl
  | 8, fd, h => by
    cases (show some d_pieces_of = some fd from h)
    exact Nat.ble_eq.mp rfl
  | 9, fd, h => by
    cases (show some d_check_all_joined = some fd from h)
    exact Nat.ble_eq.mp rfl
  | 10, fd, h => by
    cases (show some d_far_from = some fd from h)
    exact Nat.ble_eq.mp rfl
  | 11, fd, h => by
    cases (show some d_distances = some fd from h)
    exact Nat.ble_eq.mp rfl
  | 12, fd, h => by
    cases (show some d_shortest_way = some fd from h)
    exact Nat.ble_eq.mp rfl
  | 13, fd, h => by
    cases (show some d_rims = some fd from h)
    exact Nat.ble_eq.mp rfl
  | 14, fd, h => by
    cases (show some d_centre = some fd from h)
    exact Nat.ble_eq.mp rfl
  | 15, fd, h => by
    cases (show some d_width = some fd from h)
    exact Nat.ble_eq.mp rfl
  | 16, fd, h => by
    cases (show some d_sums = some fd from h)
    exact Nat.ble_eq.mp rfl
  | 17, fd, h => by
    cases (show some d_nearest_to_all = some fd from h)
    exact Nat.ble_eq.mp rfl
  | 18, fd, h => by
    cases (show some d_far_ends = some fd from h)
    exact Nat.ble_eq.mp rfl
  | 19, fd, h => by
    cases (show some d__law_hash = some fd from h)
    exact Nat.ble_eq.mp rfl
  | 20, fd, h => by
    cases (show some d__law_random = some fd from h)
    exact Nat.ble_eq.mp rfl
  | 21, fd, h => by
    cases (show some d__law_cell = some fd from h)
    exact Nat.ble_eq.mp rfl
  | 22, fd, h => by
    cases (show some d__law_generator = some fd from h)
    exact Nat.ble_eq.mp rfl
  | 23, fd, h => by
    cases (show some d__law_same = some fd from h)
    exact Nat.ble_eq.mp rfl
  | 24, fd, h => by
    cases (show some d__law_call = some fd from h)
    exact Nat.ble_eq.mp rfl
  | 25, fd, h => by
    cases (show some d__law_mark = some fd from h)
    exact Nat.ble_eq.mp rfl
  | 26, fd, h => by
    cases (show some d__law_raised = some fd from h)
    exact Nat.ble_eq.mp rfl
  | 27, fd, h => by
    cases (show some d__law_refused = some fd from h)
    exact Nat.ble_eq.mp rfl
  | 28, fd, h => by
    cases (show some d__law_all_refused = some fd from h)
    exact Nat.ble_eq.mp rfl
  | 29, fd, h => by
    cases (show some d__law_web = some fd from h)
    exact Nat.ble_eq.mp rfl
  | 30, fd, h => by
    cases (show some d__law_whole_web = some fd from h)
    exact Nat.ble_eq.mp rfl
  | 31, fd, h => by
    cases (show some d__law_some_web = some fd from h)
    exact Nat.ble_eq.mp rfl
  | 32, fd, h => by
    cases (show some d__law_pieces = some fd from h)
    exact Nat.ble_eq.mp rfl
  | 33, fd, h => by
    cases (show some d__law_wrong_webs = some fd from h)
    exact Nat.ble_eq.mp rfl
  | 34, fd, h => by
    cases (show some d__law_wrong_places = some fd from h)
    exact Nat.ble_eq.mp rfl
  | 35, fd, h => by
    cases (show some d__law_is_kind = some fd from h)
    exact Nat.ble_eq.mp rfl
  | 36, fd, h => by
    cases (show some d__law_far = some fd from h)
    exact Nat.ble_eq.mp rfl
  | 37, fd, h => by
    cases (show some d__law_way = some fd from h)
    exact Nat.ble_eq.mp rfl
  | 38, fd, h => by
    cases (show some d__law_case_right = some fd from h)
    exact Nat.ble_eq.mp rfl
  | 39, fd, h => by
    cases (show some d_law = some fd from h)
    exact Nat.ble_eq.mp rfl
  | n + 40, fd, h => by cases h
theorem nmF : ∀ i, fnN i = match ds[i]? with | some p => p.1 | none => "0"
  | 0 => rfl
  | 1 => rfl
  | 2 => rfl
  | 3 => rfl
  | 4 => rfl
  | 5 => rfl
  | 6 => rfl
  | 7 => rfl
  | 8 => rfl
  | 9 => rfl
  | 10 => rfl
  | 11 => rfl
  | 12 => rfl
  | 13 => rfl
  | 14 => rfl
  | 15 => rfl
  | 16 => rfl
  | 17 => rfl
  | 18 => rfl
  | 19 => rfl
  | 20 => rfl
  | 21 => rfl
  | 22 => rfl
  | 23 => rfl
  | 24 => rfl
  | 25 => rfl
  | 26 => rfl
  | 27 => rfl
  | 28 => rfl
  | 29 => rfl
  | 30 => rfl
  | 31 => rfl
  | 32 => rfl
  | 33 => rfl
  | 34 => rfl
  | 35 => rfl
  | 36 => rfl
  | 37 => rfl
  | 38 => rfl
  | 39 => rfl
  | _ + 40 => rfl
theorem nmI : ∀ x i, numV x = some i → (numN x, i) ∈ nums
  | 0, _, h => by
    cases h
    exact List.mem_of_getElem? (i := 0) rfl
  | 1, _, h => by
    cases h
    exact List.mem_of_getElem? (i := 1) rfl
  | _ + 2, _, h => by cases h
theorem nmC : ∀ i, clsN i = match cs[i]? with | some d => d.x | none => "0"
  | 0 => rfl
  | 1 => rfl
  | 2 => rfl
  | _ + 3 => rfl
theorem evs : ∀ d ∈ cs, d.Ev := fun d hd => by
  rcases List.mem_cons.mp hd with rfl | hd
  · exact ev_InvalidWeb
  rcases List.mem_cons.mp hd with rfl | hd
  · exact ev_InvalidPlace
  rcases List.mem_cons.mp hd with rfl | hd
  · exact ev_Parted
  cases hd
abbrev hk : PySem.W.Hook := hookX 5 (faOf (ds.map (·.1)) nums (cs.map (·.x)) "GameError") (ds.map tdef) cs "/claim/cut.py"
def ob (s : PySem.W.SharedT) : AlX := obsXG 5 (faOf (ds.map (·.1)) nums (cs.map (·.x)) "GameError") (ds.map tdef) cs "/claim/cut.py" (HandSHeadRun.getT s)
theorem ob_eq (s : PySem.W.SharedT) : ob s = hk.obs s.abs := obsXG_eq (HandSHeadRun.getT_eq s)
abbrev R : PySem.W.OpenRow := PySem.W.OpenLaw.row PySem.Challenge.rw_joinorcut_k81_whole_distances
def loose : List PySem.Str := (["GameError", "InvalidWeb", "InvalidPlace", "Parted", "is_whole", "MOST_PLACES", "MOST_TIES", "is_count", "is_below", "is_pair", "is_web", "check_web", "check_place", "labels_of", "pieces_of"] : List PySem.Str) ++ (["check_all_joined", "far_from", "distances", "shortest_way", "rims", "centre", "width", "sums", "nearest_to_all", "far_ends", "_law_hash", "_law_random", "_law_cell", "_law_generator", "_law_same"] : List PySem.Str) ++ (["_law_call", "_law_mark", "_law_raised", "_law_refused", "_law_all_refused", "_law_web", "_law_whole_web", "_law_some_web", "_law_pieces", "_law_wrong_webs", "_law_wrong_places", "_law_is_kind", "_law_far", "_law_way", "_law_case_right"] : List PySem.Str)
theorem run (w : World) : HandSHeadRun.RunEq R (PySem.W.view R.prog [50]) hk ob 4000 loose w := by
  intro os
  kernel_rfl
end K81
end Ev
end
section
set_option linter.all false
set_option maxRecDepth 100000
set_option maxHeartbeats 0
open PySem PySem.W PySem.Calls PyProof.Rows
theorem Ev.K81.holds_of (plain : ∀ ns : List Int, ns.length ≤ 63 → ∃ fin, Ev.callN Ev.K81.tbl 40 39 [.im (.scr ns)] = .ret (.im (.bl true)) fin) : PySem.Challenge.rw_joinorcut_k81_whole_distances.Holds := by
  w_on; o_law
  refine HandSHeadRun.head_any (r := OpenLaw.row PySem.Challenge.rw_joinorcut_k81_whole_distances) (q := view (OpenLaw.row PySem.Challenge.rw_joinorcut_k81_whole_distances).prog [50]) (H := Ev.K81.hk) (ob := Ev.K81.ob) (M := 4000) (loose := Ev.K81.loose) (d := HandSHeadRun.topDef (OpenLaw.row PySem.Challenge.rw_joinorcut_k81_whole_distances).prog 50) (kwd := []) Ev.K81.ob_eq
    (by kernel_rfl) (fun s => by kernel_rfl) Ev.K81.run (by kernel_rfl) (by kernel_rfl) (by kernel_rfl) (by rfl) (by first | assumption | decide +kernel) (by decide +kernel) ⟨rfl, rfl, rfl, rfl, rfl, by decide +kernel⟩ ?hw ?hc
  case hw => w_witness2
  case hc =>
    exact Ev.law_holds (l := PySem.Challenge.rw_joinorcut_k81_whole_distances) (m := 63) (n := 39) (f := 39) (x := "script") (fd := Ev.K81.d_law) (md := Ev.K81.md) (ds := Ev.K81.ds) (nums := Ev.K81.nums) (cs := Ev.K81.cs) (T := Ev.K81.tbl) rfl (by decide) (by kernel_rfl) ⟨rfl, by decide, by decide⟩
      (fun _ => rfl) (fun _ => rfl) (fun _ => rfl) (fun _ => by kernel_rfl) rfl rfl
      Ev.K81.evs (by kernel_rfl) (by kernel_rfl) (fun _ => rfl) Ev.K81.one (fun _ => rfl)
      (fun _ => Ev.K81.nmC) (fun _ => Ev.K81.nmF) (fun _ => Ev.K81.nmI)
      (fun wo K mg H => Ev.K81.defs H) plain
end
set_option maxRecDepth 100000 in
set_option maxHeartbeats 0 in
theorem PySem.Challenge.cw_joinorcut_k81_whole_distances_holds : PySem.Challenge.rw_joinorcut_k81_whole_distances.Holds := by
  exact Ev.K81.holds_of fun ns _ => ⟨[], Ev.K81.law 25 ns⟩
